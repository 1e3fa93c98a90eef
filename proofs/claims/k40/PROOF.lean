import PyProof.Rows.All
import Wide.All
import OpenK.AllK
import Wide.FinOn
import HandS.ForMost
import HandS.Wide
import HandS.Deep
import HandS.Flow
import HandS.IsInst
import HandS.Walk
import HandS.Defaults
import HandS.Style
import HandS.TupAny
import HandS.Zip
import HandS.Conv
import HandS.FStr
import HandS.NoneIn
import HandS.RaiseMore
import HandS.HeadHook1
import HandS.CallLocal
import HandS.TupMul
import KE.GoesZip
import KE.GoesMore
import KE.GoesEnum
import KE.KDictZip
import PyProof.ListNew
import KE.DataMinMax
import KE.SortData
import HandS.SortKw
import HandS.SetFor
import HandS.Strs
import HandS.SortInts
import HandS.Head0
import HandS.Head1
import HandS.Head2
import HandS.HeadEnd
import HandS.HeadHook2
import HandS.HeadHook4
import PySem.Challenge.RW_shadowruns_k40_gaps_closed_by_ways
set_option Elab.async false
set_option linter.all false
set_option maxRecDepth 100000
set_option maxHeartbeats 0
/-! PF, first part: the small language, its evaluator over plain data, ownership trees. -/
namespace PF
open PySem
abbrev D := PyData
/-- a value with what is owned of it: frozen data, a list of one's own, a tuple that holds such lists -/
inductive OV where
  | fz (d : D)
  | ol (xs : List OV)
  | ot (xs : List OV)
mutual
def OV.d : OV → D
  | .fz d => d
  | .ol xs => .list (OV.ds xs)
  | .ot xs => .tuple (OV.ds xs)
def OV.ds : List OV → List D
  | [] => []
  | x :: xs => x.d :: OV.ds xs
end
theorem OV.ds_map : ∀ xs : List OV, OV.ds xs = xs.map OV.d
  | [] => rfl
  | x :: xs => by rw [OV.ds, OV.ds_map xs]; rfl
def fzs (ds : List D) : List OV := ds.map OV.fz
theorem ds_fzs : ∀ ds : List D, OV.ds (fzs ds) = ds
  | [] => rfl
  | d :: ds => by
    show (OV.fz d).d :: OV.ds (fzs ds) = d :: ds
    rw [ds_fzs ds]; rfl
abbrev Env := List (Option OV)

inductive Bop where
  | add | sub | mul | fdiv | mod | pow
  deriving DecidableEq
inductive Cop where
  | eq | ne | lt | le | gt | ge | inn | nin
  deriving DecidableEq
inductive Blt where
  | len | abs | int | min | max | list | tuple | all | any | sum | str
  deriving DecidableEq
/-- a constant of the module's top -/
inductive P1 where
  | mnt | mxt | mnd | mxd | srs | rev | rpr
  deriving DecidableEq
/-- a constant's part -/
inductive CA where
  | non
  | int (i : Int)
  | str (z : Str)
  deriving DecidableEq
inductive Cst where
  | str (z : Str)
  | int (i : Int)
  | tup (xs : List CA)
  deriving DecidableEq
def CA.d : CA → D
  | .non => .none
  | .int i => .int i
  | .str z => .str z
def Cst.d : Cst → D
  | .str z => .str z
  | .int i => .int i
  | .tup xs => .tuple (xs.map CA.d)
inductive Ty where
  | int | bool | str | list | tuple
  deriving DecidableEq
mutual
/-- a target -/
inductive T where
  | nm (i : Nat)
  | tp (ts : Ts)
inductive Ts where
  | nil
  | cons (t : T) (ts : Ts)
end
mutual
/-- an expression -/
inductive E where
  | c (d : D)
  | v (i : Nat)
  | bin (op : Bop) (a b : E)
  | neg (a : E)
  | nt (a : E)
  | cmp (op : Cop) (a b : E)
  | isn (n : Bool) (a : E)
  | chn (o1 o2 : Cop) (a b c : E)
  | an (a b : E)
  | orr (a b : E)
  | ite (t a b : E)
  | tup (es : Es)
  | lst (es : Es)
  | idx (a b : E)
  | slc (a : E) (lo hi : Oe)
  | call (g : Nat) (as : As)
  | callk (g : Nat) (es : Es) (perm : List Nat)
  | blt (b : Blt) (es : Es)
  | isi (ts : List Ty) (a : E)
  | lc (own : List Nat) (tg : T) (it : It) (cnd : E) (elt : E)
  | lc2 (own own1 : List Nat) (tg : T) (it : It) (tg1 : T) (it1 : It) (cnd : E) (elt : E)
  | idxO (i : Nat) (b : E)
  | idxOO (i : Nat) (b c : E)
  | lenO (i : Nat)
  | mv (i : Nat)
  | bor (e : E)
  | gc (c : Cst)
  | fm (e : E)
  | js (es : Es)
  | lrng (a b : E)
  | isb (m b : Bool) (a : E)
  | callt (g : Nat) (a : E)
  | p1 (p : P1) (a : E)
  | cat (a b : E)
  | lz (a b : E)
  | fnv (x : Str)
  | callv (i : Nat) (cs : List (Str × Nat)) (e : E) (es : Es)
  | popI (i : Nat) (e : E)
inductive Oe where
  | no
  | ye (e : E)
inductive Es where
  | nil
  | cons (e : E) (es : Es)
/-- arguments: by value, or a list of one's own that is handed on to be changed -/
inductive As where
  | nil
  | ev (e : E) (as : As)
  | io (i : Nat) (as : As)
/-- what a loop walks -/
inductive It where
  | seq (e : E)
  | rng1 (a : E)
  | rng2 (a b : E)
  | enum (a : E)
  | zip (a b : E)
  | zip3 (a b c : E)
end
mutual
inductive S where
  | asg (f : Bool) (t : T) (e : E)
  | par (fs : List (Nat × Bool)) (es : Es)
  | setO (i : Nat) (a e : E)
  | setOO (i : Nat) (a b e : E)
  | appO (i : Nat) (e : E)
  | extO (i : Nat) (e : E)
  | popO (i : Nat)
  | appOO (i : Nat) (a e : E)
  | appOT (i : Nat) (a b e : E)
  | extOO (i : Nat) (a e : E)
  | ex (e : E)
  | iff (t : E) (a b : Ss)
  | whl (t : E) (b : Ss)
  | for_ (t : T) (it : It) (b : Ss)
  | ret (e : E)
  | retn
  | frz (i : Nat)
  | pas
  | brk
  | cnt
inductive Ss where
  | nil
  | cons (s : S) (ss : Ss)
end
structure Fn where
  np : Nat
  ns : Nat
  io : List Nat
  body : Ss
structure Ctx where
  call : Nat → List OV → Option (OV × List OV)
  W : Nat

/-! ### what operations do to plain data -/
/-- a def of the text as a value: told by its name -/
def fnD (x : Str) : D := .dict [(.str x, .none)]
def fnN : D → Option Str
  | .dict [(.str x, .none)] => some x
  | _ => none
def bd {α β γ : Type} (o : Option (α × β)) (k : α → β → Option γ) : Option γ := match o with
  | none => none
  | some (a, b) => k a b
def b1 {α γ : Type} (o : Option α) (k : α → Option γ) : Option γ := match o with
  | none => none
  | some a => k a
def gd {γ : Type} (b : Bool) (k : Option γ) : Option γ := match b with
  | true => k
  | false => none
@[simp] theorem bd_some {α β γ : Type} (a : α) (b : β) (k : α → β → Option γ) : bd (some (a, b)) k = k a b := rfl
@[simp] theorem bd_none {α β γ : Type} (k : α → β → Option γ) : bd none k = none := rfl
@[simp] theorem b1_some {α γ : Type} (a : α) (k : α → Option γ) : b1 (some a) k = k a := rfl
@[simp] theorem b1_none {α γ : Type} (k : α → Option γ) : b1 none k = none := rfl
@[simp] theorem gd_true {γ : Type} (k : Option γ) : gd true k = k := rfl
@[simp] theorem gd_false {γ : Type} (k : Option γ) : gd false k = none := rfl
theorem bd_inv {α β γ : Type} {o : Option (α × β)} {k : α → β → Option γ} {c : γ} (h : bd o k = some c) : ∃ a b, o = some (a, b) ∧ k a b = some c := by
  cases o with
  | none => cases h
  | some p => exact ⟨p.1, p.2, rfl, h⟩
theorem b1_inv {α γ : Type} {o : Option α} {k : α → Option γ} {c : γ} (h : b1 o k = some c) : ∃ a, o = some a ∧ k a = some c := by
  cases o with
  | none => cases h
  | some p => exact ⟨p, rfl, h⟩
theorem gd_inv {γ : Type} {b : Bool} {k : Option γ} {c : γ} (h : gd b k = some c) : b = true ∧ k = some c := by
  cases b with
  | true => exact ⟨rfl, h⟩
  | false => cases h

def SZ : Nat := 16777216
def mulOk (i j : Int) : Bool := decide ((-(2 ^ 64) < i ∧ i < 2 ^ 64) ∨ (-(2 ^ 64) < j ∧ j < 2 ^ 64)) || decide (i.natAbs.log2 + j.natAbs.log2 < 1000000)
def divOk (j : Int) : Bool := decide (j ≠ 0) && decide (j.natAbs.log2 < 9000)
def powOk (i j : Int) : Bool := decide (0 ≤ j) && decide (j ≤ 1000000) && decide (i.natAbs < 2 ^ 64)
def binD (op : Bop) (x y : D) : Option OV := match op with
  | .add => match x, y with
    | .int i, .int j => some (.fz (.int (i + j)))
    | .list xs, .list ys => gd (decide (xs.length + ys.length ≤ SZ)) (some (.ol (fzs (xs ++ ys))))
    | .str x, .str y => gd (decide (x.length + y.length ≤ SZ)) (some (.fz (.str (x ++ y))))
    | .tuple xs, .tuple ys => gd (decide (xs.length + ys.length ≤ SZ)) (some (.fz (.tuple (xs ++ ys))))
    | _, _ => none
  | .sub => match x, y with
    | .int i, .int j => some (.fz (.int (i - j)))
    | _, _ => none
  | .mul => match x, y with
    | .int i, .int j => gd (mulOk i j) (some (.fz (.int (i * j))))
    | .list xs, .int j => gd (decide (-(2 ^ 63) ≤ j ∧ j < 2 ^ 63 ∧ xs.length * j.toNat ≤ SZ)) (some (.ol (fzs (List.replicate j.toNat xs).flatten)))
    | .tuple xs, .int j => gd (decide (-1000 ≤ j ∧ j ≤ 1000 ∧ xs.length ≤ 1000)) (some (.fz (.tuple (List.replicate j.toNat xs).flatten)))
    | _, _ => none
  | .fdiv => match x, y with
    | .int i, .int j => gd (divOk j) (some (.fz (.int (i.fdiv j))))
    | _, _ => none
  | .mod => match x, y with
    | .int i, .int j => gd (decide (j ≠ 0)) (some (.fz (.int (i.fmod j))))
    | _, _ => none
  | .pow => match x, y with
    | .int i, .int j => gd (powOk i j) (some (.fz (.int (i ^ j.toNat))))
    | _, _ => none
def truD : D → Option Bool
  | .none => some false
  | .bool b => some b
  | .int i => some (i != 0)
  | .str x => gd (decide (x.length ≤ SZ)) (some ((x.length : Int) != 0))
  | .list xs => some (!xs.isEmpty)
  | .tuple xs => some (!xs.isEmpty)
  | .dict _ => none
def flatD : D → Bool
  | .none => true
  | .bool _ => true
  | .int _ => true
  | .str _ => true
  | _ => false
def inD (x : D) (ys : List D) : Bool := ys.any fun z => PyData.eqv z x
def cmpD (op : Cop) (x y : D) : Option Bool := match op with
  | .eq => gd (SeqAt.shaped x && SeqAt.shaped y) (some (PyData.eqv x y))
  | .ne => gd (SeqAt.shaped x && SeqAt.shaped y) (some (!PyData.eqv x y))
  | .lt => match x, y with
    | .int i, .int j => some (decide (i < j))
    | _, _ => none
  | .le => match x, y with
    | .int i, .int j => some (decide (i ≤ j))
    | _, _ => none
  | .gt => match x, y with
    | .int i, .int j => some (decide (j < i))
    | _, _ => none
  | .ge => match x, y with
    | .int i, .int j => some (decide (j ≤ i))
    | _, _ => none
  | .inn => match y with
    | .list ys => gd (SeqAt.shaped x && SeqAt.shaped (.list ys)) (some (inD x ys))
    | .tuple ys => gd ((flatD x && ys.all flatD) || (SeqAt.shaped x && SeqAt.shaped (.tuple ys))) (some (inD x ys))
    | _ => none
  | .nin => match y with
    | .list ys => gd (SeqAt.shaped x && SeqAt.shaped (.list ys)) (some (!inD x ys))
    | .tuple ys => gd ((flatD x && ys.all flatD) || (SeqAt.shaped x && SeqAt.shaped (.tuple ys))) (some (!inD x ys))
    | _ => none
def ixN (n : Nat) (i : Int) : Option Nat := if 0 ≤ i then (if i < n then some i.toNat else none) else if -(n : Int) ≤ i then some (i + n).toNat else none
def atD {α : Type} (xs : List α) (i : Int) : Option α := b1 (ixN xs.length i) fun j => xs[j]?
def idxD : D → D → Option D
  | .list xs, .int i => atD xs i
  | .tuple xs, .int i => atD xs i
  | .str x, .int i => gd (decide (x.length ≤ SZ)) (b1 (atD x.cps.toList i) fun c => some (.str ⟨#[c]⟩))
  | _, _ => none
def intsD : List D → Option (List Int)
  | [] => some []
  | .int i :: ds => b1 (intsD ds) fun is => some (i :: is)
  | _ => none
def boolsD : List D → Option (List Bool)
  | [] => some []
  | .bool i :: ds => b1 (boolsD ds) fun is => some (i :: is)
  | _ => none
def minI (i : Int) (is : List Int) : Int := is.foldl (fun a b => if b < a then b else a) i
def maxI (i : Int) (is : List Int) : Int := is.foldl (fun a b => if b > a then b else a) i
def strI (i : Int) : Str := toString i
def txtD : D → Option Str
  | .str y => gd (decide (y.length ≤ SZ)) (some y)
  | .int i => gd (decide (i.natAbs.log2 < 1920)) (some (strI i))
  | _ => none
def catD : Str → List D → Option Str
  | acc, [] => some acc
  | acc, .str y :: r => gd (decide ((acc ++ y).length ≤ SZ)) (catD (acc ++ y) r)
  | _, _ => none
mutual
/-- data that can't be changed -/
def immD : D → Bool
  | .none => true
  | .bool _ => true
  | .int _ => true
  | .str _ => true
  | .tuple xs => immDs xs
  | .list _ => false
  | .dict _ => false
def immDs : List D → Bool
  | [] => true
  | d :: ds => immD d && immDs ds
end
mutual
def immO : OV → Bool
  | .fz d => immD d
  | .ol xs => immOs xs
  | .ot xs => immOs xs
def immOs : List OV → Bool
  | [] => true
  | x :: xs => immO x && immOs xs
end
def rgOk (i j : Int) : Bool := decide (-(2 ^ 62) ≤ i ∧ i < 2 ^ 62 ∧ -(2 ^ 62) ≤ j ∧ j < 2 ^ 62 ∧ (j - i).toNat ≤ 2 ^ 24)
def pairsD : List D → Option (List (Int × Int))
  | [] => some []
  | .tuple [.int i, .int j] :: ds => b1 (pairsD ds) fun ps => some ((i, j) :: ps)
  | _ => none
def pairD (p : Int × Int) : D := .tuple [.int p.1, .int p.2]
def ltP (p q : Int × Int) : Bool := decide (p.1 < q.1 ∨ (p.1 = q.1 ∧ p.2 < q.2))
def minP (p : Int × Int) (ps : List (Int × Int)) : Int × Int := ps.foldl (fun a b => if ltP b a then b else a) p
def maxP (p : Int × Int) (ps : List (Int × Int)) : Int × Int := ps.foldl (fun a b => if ltP a b then b else a) p
def insI (i : Int) : List Int → List Int
  | [] => [i]
  | j :: js => if i < j then i :: j :: js else if i = j then j :: js else j :: insI i js
def setI (is : List Int) : List Int := is.foldr insI []
/-- sorted(set(ds)): of ints, or of one text -/
def srsD (ds : List D) : Option OV := match ds with
  | [.str x] => some (.ol (fzs [.str x]))
  | ds => b1 (intsD ds) fun is => gd (decide (is.length < 4000)) (some (.ol (fzs ((setI is).map .int))))
/-- repr of a list or a tuple -/
def rprD (d : D) : Option OV := gd (PyProof.Rows.isDisplay d && (SeqAt.shaped d && (d.showable && decide (d.shown.length ≤ SZ)))) (some (.fz (.str d.shown)))
def p1D (p : P1) (d : D) : Option OV := match p with
  | .rpr => rprD d
  | .mnt => match d with
    | .list ds => b1 (pairsD ds) fun ps => match ps with
      | [] => none
      | p :: ps => some (.fz (pairD (minP p ps)))
    | _ => none
  | .mxt => match d with
    | .list ds => b1 (pairsD ds) fun ps => match ps with
      | [] => none
      | p :: ps => some (.fz (pairD (maxP p ps)))
    | _ => none
  | .mnd => match d with
    | .list ds => b1 (intsD ds) fun is => match is with
      | [] => some (.fz .none)
      | i :: is => some (.fz (.int (minI i is)))
    | _ => none
  | .mxd => match d with
    | .list ds => b1 (intsD ds) fun is => match is with
      | [] => some (.fz .none)
      | i :: is => some (.fz (.int (maxI i is)))
    | _ => none
  | .srs => match d with
    | .list ds => srsD ds
    | _ => none
  | .rev => match d with
    | .list ds => some (.ol (fzs ds.reverse))
    | .tuple ds => some (.fz (.tuple ds.reverse))
    | _ => none
def bltD (b : Blt) (ds : List D) : Option OV := match b with
  | .len => match ds with
    | [.list xs] => some (.fz (.int xs.length))
    | [.tuple xs] => some (.fz (.int xs.length))
    | [.str x] => gd (decide (x.length ≤ SZ)) (some (.fz (.int x.length)))
    | _ => none
  | .abs => match ds with
    | [.int i] => some (.fz (.int (if i < 0 then -i else i)))
    | _ => none
  | .int => match ds with
    | [.int i] => some (.fz (.int i))
    | [.bool b] => some (.fz (.int (if b then 1 else 0)))
    | _ => none
  | .min => match ds with
    | [.int i, .int j] => some (.fz (.int (if j < i then j else i)))
    | [.list ds] => b1 (intsD ds) fun is => match is with
      | [] => none
      | i :: is => some (.fz (.int (minI i is)))
    | _ => none
  | .max => match ds with
    | [.int i, .int j] => some (.fz (.int (if j > i then j else i)))
    | [.list ds] => b1 (intsD ds) fun is => match is with
      | [] => none
      | i :: is => some (.fz (.int (maxI i is)))
    | _ => none
  | .sum => match ds with
    | [.list ds] => b1 (intsD ds) fun is => some (.fz (.int is.sum))
    | _ => none
  | .list => match ds with
    | [.list xs] => some (.ol (fzs xs))
    | [.tuple xs] => some (.ol (fzs xs))
    | _ => none
  | .tuple => match ds with
    | [.list xs] => some (.fz (.tuple xs))
    | [.tuple xs] => some (.fz (.tuple xs))
    | _ => none
  | .all => match ds with
    | [.list ds] => b1 (boolsD ds) fun bs => some (.fz (.bool (bs.all id)))
    | _ => none
  | .any => match ds with
    | [.list ds] => b1 (boolsD ds) fun bs => some (.fz (.bool (bs.any id)))
    | _ => none
  | .str => match ds with
    | [.int i] => gd (decide (i.natAbs.log2 < 1920)) (some (.fz (.str (strI i))))
    | [.str z] => some (.fz (.str z))
    | _ => none
def isTy : Ty → D → Bool
  | .int, .int _ => true
  | .int, .bool _ => true
  | .bool, .bool _ => true
  | .str, .str _ => true
  | .list, .list _ => true
  | .tuple, .tuple _ => true
  | _, _ => false
/-- xs[lo:hi] -/
def cutD {α : Type} (xs : List α) (lo hi : Option Int) : List α := (xs.drop (HT.sIx xs.length 0 lo)).take (HT.sIx xs.length xs.length hi - HT.sIx xs.length 0 lo)
def slcD : D → Option Int → Option Int → Option OV
  | .list xs, lo, hi => some (.ol (fzs (cutD xs lo hi)))
  | .tuple xs, lo, hi => some (.fz (.tuple (cutD xs lo hi)))
  | _, _, _ => none

/-! ### slots -/
def get (ρ : Env) (i : Nat) : Option OV := match ρ[i]? with
  | some (some o) => some o
  | _ => none
def getF (ρ : Env) (i : Nat) : Option D := match ρ[i]? with
  | some (some (.fz d)) => some d
  | _ => none
def getL (ρ : Env) (i : Nat) : Option (List OV) := match ρ[i]? with
  | some (some (.ol xs)) => some xs
  | _ => none
def wipeE (ρ : Env) : List Nat → Env
  | [] => ρ
  | i :: is => wipeE (ρ.set i none) is
/-- a comprehension's own slots forgotten; as they were in ρ -/
def wipC (ρ : Env) : List Nat → Env
  | [] => ρ
  | i :: is => (wipC ρ is).set i none
def jn {β : Type} (o : Option (Option β)) : Option β := match o with
  | some x => x
  | none => none
def backE (ρ ρ' : Env) : List Nat → Env
  | [] => ρ'
  | i :: is => backE ρ (ρ'.set i (jn ρ[i]?)) is
mutual
def bindT : T → D → Env → Option Env
  | .nm i, d, ρ => some (ρ.set i (some (.fz d)))
  | .tp ts, d, ρ => match d with
    | .tuple ds => bindTs ts ds ρ
    | .list ds => bindTs ts ds ρ
    | _ => none
def bindTs : Ts → List D → Env → Option Env
  | .nil, [], ρ => some ρ
  | .cons t ts, d :: ds, ρ => b1 (bindT t d ρ) fun ρ' => bindTs ts ds ρ'
  | _, _, _ => none
end
/-- all slots frozen for a while -/
def frE (ρ : Env) : Env := ρ.map (Option.map fun o => OV.fz o.d)
def allFz : List OV → Option (List D)
  | [] => some []
  | .fz d :: xs => b1 (allFz xs) fun ds => some (d :: ds)
  | _ => none
def mkTup (xs : List OV) : OV := match allFz xs with
  | some ds => .fz (.tuple ds)
  | none => .ot xs
def chars (x : Str) : List D := x.cps.toList.map fun c => .str ⟨#[c]⟩
def rangeD (lo : Int) (n : Nat) : List D := (List.range n).map fun i => .int (lo + (i : Nat))
def rngOk (i : Int) : Bool := decide (-(2 ^ 62) ≤ i) && decide (i < 2 ^ 62)
def enumD : Nat → List D → List D
  | _, [] => []
  | k, d :: ds => .tuple [.int (k : Nat), d] :: enumD (k + 1) ds
def zipD (xs ys : List D) : List D := List.zipWith (fun x y => .tuple [x, y]) xs ys
def seqD : D → Option (Bool × List D)
  | .list xs => some (true, xs)
  | .tuple xs => some (false, xs)
  | _ => none
def zipT3 (xs ys zs : List D) : List D := (xs.zip (ys.zip zs)).map fun p => .tuple [p.1, p.2.1, p.2.2]
def zipD3 (x y z : D) : Option (List D) := bd (seqD x) fun _ xs => bd (seqD y) fun _ ys => bd (seqD z) fun _ zs => some (zipT3 xs ys zs)
def zipD2 (x y : D) : Option (List D) := bd (seqD x) fun _ xs => bd (seqD y) fun _ ys => some (zipD xs ys)
def lzD (x y : D) : Option OV := b1 (zipD2 x y) fun ds => gd (decide (ds.length ≤ SZ)) (some (.ol (fzs ds)))
/-- the arguments as they stand when the call is made: values, or slots -/
abbrev Ag := OV ⊕ Nat
def resolve (ρ : Env) : List Ag → Option (List OV)
  | [] => some []
  | .inl o :: r => b1 (resolve ρ r) fun os => some (o :: os)
  | .inr i :: r => b1 (getL ρ i) fun xs => b1 (resolve ρ r) fun os => some (.ol xs :: os)
def slotsOf : List Ag → List Nat
  | [] => []
  | .inl _ :: r => slotsOf r
  | .inr i :: r => i :: slotsOf r
def putBack : List Nat → List OV → Env → Option Env
  | [], [], ρ => some ρ
  | i :: is, o :: os, ρ => putBack is os (ρ.set i (some o))
  | _, _, _ => none
def permD (perm : List Nat) (os : List OV) : Option (List OV) := match perm with
  | [] => some []
  | i :: is => b1 os[i]? fun o => b1 (permD is os) fun r => some (o :: r)

/-- a comprehension's turns -/
def evL (step : D → Env → Option (List OV × Env)) : List D → Env → Option (List OV × Env)
  | [], ρ => some ([], ρ)
  | d :: ds, ρ => bd (step d ρ) fun o ρ1 => bd (evL step ds ρ1) fun os ρ2 => some (o ++ os, ρ2)
def optI : Option D → Option (Option Int)
  | none => some none
  | some (.int i) => some (some i)
  | _ => none
def tyOk : List Ty → Bool
  | [] => false
  | _ => true

/-- what a tuple of one's own holds -/
def otD : OV → Option (List OV)
  | .ot xs => some xs
  | _ => none
/-- x.pop(k), x in slot i -/
def popK (i : Nat) (xs : List OV) (k : D) (ρ : Env) : Option (OV × Env) := match k with
  | .int k => gd (decide (xs.length ≤ SZ)) (b1 (ixN xs.length k) fun j => b1 xs[j]? fun o => some (o, ρ.set i (some (.ol (xs.eraseIdx j)))))
  | _ => none
mutual
def evE (C : Ctx) : E → Env → Option (OV × Env)
  | .c d, ρ => some (.fz d, ρ)
  | .v i, ρ => b1 (getF ρ i) fun d => some (.fz d, ρ)
  | .bin op a b, ρ => bd (evE C a ρ) fun x ρ1 => bd (evE C b ρ1) fun y ρ2 => b1 (binD op x.d y.d) fun r => some (r, ρ2)
  | .neg a, ρ => bd (evE C a ρ) fun x ρ1 => match x.d with
    | .int i => some (.fz (.int (-i)), ρ1)
    | _ => none
  | .nt a, ρ => bd (evE C a ρ) fun x ρ1 => b1 (truD x.d) fun t => some (.fz (.bool (!t)), ρ1)
  | .cmp op a b, ρ => bd (evE C a ρ) fun x ρ1 => bd (evE C b ρ1) fun y ρ2 => b1 (cmpD op x.d y.d) fun r => some (.fz (.bool r), ρ2)
  | .isn n a, ρ => bd (evE C a ρ) fun x ρ1 => match x.d with
    | .none => some (.fz (.bool (!n)), ρ1)
    | _ => some (.fz (.bool n), ρ1)
  | .chn o1 o2 a b c, ρ => bd (evE C a ρ) fun x ρ1 => bd (evE C b ρ1) fun y ρ2 => b1 (cmpD o1 x.d y.d) fun r => match r with
    | true => bd (evE C c ρ2) fun z ρ3 => b1 (cmpD o2 y.d z.d) fun r' => some (.fz (.bool r'), ρ3)
    | false => some (.fz (.bool false), ρ2)
  | .an a b, ρ => bd (evE C a ρ) fun x ρ1 => b1 (truD x.d) fun t => match t with
    | true => evE C b ρ1
    | false => some (x, ρ1)
  | .orr a b, ρ => bd (evE C a ρ) fun x ρ1 => b1 (truD x.d) fun t => match t with
    | true => some (x, ρ1)
    | false => evE C b ρ1
  | .ite t a b, ρ => bd (evE C t ρ) fun x ρ1 => b1 (truD x.d) fun t => match t with
    | true => evE C a ρ1
    | false => evE C b ρ1
  | .tup es, ρ => bd (evEs C es ρ) fun xs ρ1 => gd (decide (xs.length ≤ SZ)) (some (mkTup xs, ρ1))
  | .lst es, ρ => bd (evEs C es ρ) fun xs ρ1 => gd (decide (xs.length ≤ SZ)) (some (.ol xs, ρ1))
  | .idx a b, ρ => bd (evE C a ρ) fun x ρ1 => bd (evE C b ρ1) fun y ρ2 => b1 (idxD x.d y.d) fun r => some (.fz r, ρ2)
  | .slc a lo hi, ρ => bd (evE C a ρ) fun x ρ1 => bd (evO C lo ρ1) fun l ρ2 => bd (evO C hi ρ2) fun h ρ3 => b1 (optI l) fun l => b1 (optI h) fun h => b1 (slcD x.d l h) fun r => some (r, ρ3)
  | .call g as, ρ => bd (evA C as ρ) fun xs ρ1 => b1 (resolve ρ1 xs) fun os => bd (C.call g os) fun r outs => b1 (putBack (slotsOf xs) outs (wipeE ρ1 (slotsOf xs))) fun ρ2 => some (r, ρ2)
  | .callk g es perm, ρ => bd (evEs C es ρ) fun xs ρ1 => b1 (permD perm xs) fun os => bd (C.call g (fzs (OV.ds os))) fun r outs => match outs with
    | [] => some (r, ρ1)
    | _ => none
  | .blt b es, ρ => bd (evEs C es ρ) fun xs ρ1 => b1 (bltD b (OV.ds xs)) fun r => some (r, ρ1)
  | .isi ts a, ρ => bd (evE C a ρ) fun x ρ1 => match x.d with
    | .dict _ => none
    | d => some (.fz (.bool (ts.any fun t => isTy t d)), ρ1)
  | .lc own tg it cnd elt, ρ => bd (evI C it ρ) fun ds ρ1 => bd (evL (fun d ρ' => b1 (bindT tg d (wipC ρ' own)) fun ρa => bd (evE C cnd ρa) fun b ρb => b1 (truD b.d) fun t => match t with
    | true => bd (evE C elt ρb) fun x ρc => some ([x], ρc)
    | false => some ([], ρb)) ds ρ1) fun os ρ2 => gd (decide (os.length < SZ)) (some (.ol os, backE ρ1 ρ2 own))
  | .lc2 own own1 tg it tg1 it1 cnd elt, ρ => bd (evI C it ρ) fun ds ρ1 => bd (evL (fun d ρ' => b1 (bindT tg d (wipC ρ' own)) fun ρa => bd (evI C it1 ρa) fun ds1 ρb => evL (fun d1 ρ'' => b1 (bindT tg1 d1 (wipC ρ'' own1)) fun ρc => bd (evE C cnd ρc) fun b ρd => b1 (truD b.d) fun t => match t with
    | true => bd (evE C elt ρd) fun x ρe => some ([x], ρe)
    | false => some ([], ρd)) ds1 ρb) ds ρ1) fun os ρ2 => gd (decide (os.length < SZ)) (some (.ol os, backE ρ1 ρ2 own))
  | .idxO i b, ρ => b1 (getL ρ i) fun _ => bd (evE C b ρ) fun y ρ1 => b1 (getL ρ1 i) fun xs => match y.d with
    | .int k => b1 (atD xs k) fun o => match o with
      | .fz d => some (.fz d, ρ1)
      | _ => none
    | _ => none
  | .idxOO i b c, ρ => b1 (getL ρ i) fun _ => bd (evE C b ρ) fun y ρ1 => b1 (getL ρ1 i) fun xs => match y.d with
    | .int k => b1 (atD xs k) fun o => match o with
      | .ol ys => bd (evE C c (ρ1.set i none)) fun z ρ2 => match z.d with
        | .int l => b1 (atD ys l) fun p => match p with
          | .fz d => some (.fz d, ρ2.set i (some (.ol xs)))
          | _ => none
        | _ => none
      | _ => none
    | _ => none
  | .lenO i, ρ => b1 (getL ρ i) fun xs => some (.fz (.int xs.length), ρ)
  | .mv i, ρ => b1 (get ρ i) fun o => some (o, ρ.set i none)
  | .bor e, ρ => bd (evE C e (frE ρ)) fun x _ => gd (immO x) (some (x, ρ))
  | .gc c, ρ => some (.fz c.d, ρ)
  | .fm e, ρ => bd (evE C e ρ) fun x ρ1 => b1 (txtD x.d) fun s => some (.fz (.str s), ρ1)
  | .js es, ρ => bd (evEs C es ρ) fun xs ρ1 => b1 (catD Str.empty (OV.ds xs)) fun s => some (.fz (.str s), ρ1)
  | .lrng a b, ρ => bd (evE C a ρ) fun x ρ1 => bd (evE C b ρ1) fun y ρ2 => match x.d, y.d with
    | .int i, .int j => gd (rgOk i j) (some (.ol (fzs (rangeD i (j - i).toNat)), ρ2))
    | _, _ => none
  | .isb m b a, ρ => bd (evE C a ρ) fun x ρ1 => match x.d with
    | .bool c => some (.fz (.bool (if m then !decide (c = b) else decide (c = b))), ρ1)
    | _ => none
  | .callt g a, ρ => bd (evE C a ρ) fun x ρ1 => bd (C.call g [x]) fun r _ => some (r, ρ1)
  | .p1 p a, ρ => bd (evE C a ρ) fun x ρ1 => b1 (p1D p x.d) fun r => some (r, ρ1)
  | .cat a b, ρ => bd (evE C a ρ) fun x ρ1 => bd (evE C b ρ1) fun y ρ2 => match x with
    | .ol xs => match y with
      | .ol ys => gd (decide (xs.length + ys.length ≤ SZ)) (some (.ol (xs ++ ys), ρ2))
      | _ => none
    | _ => none
  | .lz a b, ρ => bd (evE C a ρ) fun x ρ1 => bd (evE C b ρ1) fun y ρ2 => b1 (lzD x.d y.d) fun r => some (r, ρ2)
  | .fnv x, ρ => some (.fz (fnD x), ρ)
  | .callv i cs e es, ρ => b1 (getF ρ i) fun d => b1 (fnN d) fun x => b1 (cs.lookup x) fun g => bd (evE C e ρ) fun y ρ1 => bd (evEs C es ρ1) fun ys ρ2 => bd (C.call g (.fz y.d :: fzs (OV.ds ys))) fun r outs => match outs with
    | [] => some (r, ρ2)
    | _ => none
  | .popI i e, ρ => b1 (getL ρ i) fun _ => bd (evE C e ρ) fun y ρ1 => b1 (getL ρ1 i) fun xs => popK i xs y.d ρ1
def evO (C : Ctx) : Oe → Env → Option (Option D × Env)
  | .no, ρ => some (none, ρ)
  | .ye e, ρ => bd (evE C e ρ) fun x ρ1 => some (some x.d, ρ1)
def evEs (C : Ctx) : Es → Env → Option (List OV × Env)
  | .nil, ρ => some ([], ρ)
  | .cons e es, ρ => bd (evE C e ρ) fun x ρ1 => bd (evEs C es ρ1) fun xs ρ2 => some (x :: xs, ρ2)
def evA (C : Ctx) : As → Env → Option (List Ag × Env)
  | .nil, ρ => some ([], ρ)
  | .ev e as, ρ => bd (evE C e ρ) fun x ρ1 => bd (evA C as ρ1) fun xs ρ2 => some (.inl (.fz x.d) :: xs, ρ2)
  | .io i as, ρ => b1 (getL ρ i) fun _ => bd (evA C as ρ) fun xs ρ2 => gd (decide (i ∉ slotsOf xs)) (some (.inr i :: xs, ρ2))
def evI (C : Ctx) : It → Env → Option (List D × Env)
  | .seq e, ρ => bd (evE C e ρ) fun x ρ1 => match x.d with
    | .list ds => some (ds, ρ1)
    | .tuple ds => some (ds, ρ1)
    | .str z => some (chars z, ρ1)
    | _ => none
  | .rng1 a, ρ => bd (evE C a ρ) fun x ρ1 => match x.d with
    | .int i => gd (rngOk i) (some (rangeD 0 i.toNat, ρ1))
    | _ => none
  | .rng2 a b, ρ => bd (evE C a ρ) fun x ρ1 => bd (evE C b ρ1) fun y ρ2 => match x.d, y.d with
    | .int i, .int j => gd (rngOk i && rngOk j) (some (rangeD i (j - i).toNat, ρ2))
    | _, _ => none
  | .enum a, ρ => bd (evE C a ρ) fun x ρ1 => bd (seqD x.d) fun _ ds => some (enumD 0 ds, ρ1)
  | .zip a b, ρ => bd (evE C a ρ) fun x ρ1 => bd (evE C b ρ1) fun y ρ2 => b1 (zipD2 x.d y.d) fun ds => some (ds, ρ2)
  | .zip3 a b c, ρ => bd (evE C a ρ) fun x ρ1 => bd (evE C b ρ1) fun y ρ2 => bd (evE C c ρ2) fun z ρ3 => b1 (zipD3 x.d y.d z.d) fun ds => some (ds, ρ3)
end
/-- how a statement ends -/
inductive Fl where
  | nx (ρ : Env)
  | rt (o : OV) (ρ : Env)
  | bk (ρ : Env)
  | ct (ρ : Env)
def forL (step : D → Env → Option Fl) : List D → Env → Option Fl
  | [], ρ => some (.nx ρ)
  | d :: ds, ρ => b1 (step d ρ) fun f => match f with
    | .nx ρ1 => forL step ds ρ1
    | .ct ρ1 => forL step ds ρ1
    | .bk ρ1 => some (.nx ρ1)
    | .rt o ρ1 => some (.rt o ρ1)
def whlL (test : Env → Option (Bool × Env)) (body : Env → Option Fl) : Nat → Env → Option Fl
  | 0, _ => none
  | n + 1, ρ => bd (test ρ) fun t ρ1 => match t with
    | false => some (.nx ρ1)
    | true => b1 (body ρ1) fun f => match f with
      | .nx ρ2 => whlL test body n ρ2
      | .ct ρ2 => whlL test body n ρ2
      | .bk ρ2 => some (.nx ρ2)
      | .rt o ρ2 => some (.rt o ρ2)
def setPar : List (Nat × Bool) → List OV → Env → Option Env
  | [], [], ρ => some ρ
  | (i, f) :: is, o :: os, ρ => setPar is os (ρ.set i (some (match f with | true => .fz o.d | false => o)))
  | _, _, _ => none
mutual
def evS (C : Ctx) : S → Env → Option Fl
  | .asg f t e, ρ => bd (evE C e ρ) fun x ρ1 => match f with
    | true => b1 (bindT t x.d ρ1) fun ρ2 => some (.nx ρ2)
    | false => match t with
      | .nm i => some (.nx (ρ1.set i (some x)))
      | .tp _ => none
  | .par fs es, ρ => bd (evEs C es ρ) fun xs ρ1 => b1 (setPar fs xs ρ1) fun ρ2 => some (.nx ρ2)
  | .setO i a e, ρ => bd (evE C e ρ) fun x ρ1 => b1 (getL ρ1 i) fun _ => bd (evE C a ρ1) fun y ρ2 => b1 (getL ρ2 i) fun xs => match y.d with
    | .int k => b1 (ixN xs.length k) fun j => some (.nx (ρ2.set i (some (.ol (xs.set j x)))))
    | _ => none
  | .setOO i a b e, ρ => bd (evE C e ρ) fun x ρ1 => b1 (getL ρ1 i) fun _ => bd (evE C a ρ1) fun y ρ2 => b1 (getL ρ2 i) fun xs => match y.d with
    | .int k => b1 (ixN xs.length k) fun j => b1 xs[j]? fun o => match o with
      | .ol ys => bd (evE C b (ρ2.set i none)) fun z ρ3 => match z.d with
        | .int l => b1 (ixN ys.length l) fun m => some (.nx (ρ3.set i (some (.ol (xs.set j (.ol (ys.set m x)))))))
        | _ => none
      | _ => none
    | _ => none
  | .appO i e, ρ => b1 (getL ρ i) fun _ => bd (evE C e ρ) fun x ρ1 => b1 (getL ρ1 i) fun xs => gd (decide (xs.length < SZ)) (some (.nx (ρ1.set i (some (.ol (xs ++ [x]))))))
  | .extO i e, ρ => b1 (getL ρ i) fun _ => bd (evE C e ρ) fun x ρ1 => b1 (getL ρ1 i) fun xs => match x with
    | .ol ys => gd (decide (xs.length + ys.length ≤ SZ)) (some (.nx (ρ1.set i (some (.ol (xs ++ ys))))))
    | _ => none
  | .popO i, ρ => b1 (getL ρ i) fun xs => gd (decide (0 < xs.length)) (some (.nx (ρ.set i (some (.ol xs.dropLast)))))
  | .appOO i a e, ρ => b1 (getL ρ i) fun _ => bd (evE C a ρ) fun y ρ1 => b1 (getL ρ1 i) fun xs => match y.d with
    | .int k => b1 (ixN xs.length k) fun j => b1 xs[j]? fun o => match o with
      | .ol ys => bd (evE C e (ρ1.set i none)) fun x ρ2 => gd (decide (ys.length < SZ)) (some (.nx (ρ2.set i (some (.ol (xs.set j (.ol (ys ++ [x]))))))))
      | _ => none
    | _ => none
  | .extOO i a e, ρ => b1 (getL ρ i) fun _ => bd (evE C a ρ) fun y ρ1 => b1 (getL ρ1 i) fun xs => match y.d with
    | .int k => b1 (ixN xs.length k) fun j => b1 xs[j]? fun o => match o with
      | .ol ys => bd (evE C e (ρ1.set i none)) fun x ρ2 => match x with
        | .ol zs => gd (decide (ys.length + zs.length ≤ SZ)) (some (.nx (ρ2.set i (some (.ol (xs.set j (.ol (ys ++ zs))))))))
        | _ => none
      | _ => none
    | _ => none
  | .appOT i a b e, ρ => b1 (getL ρ i) fun xs => bd (evE C a (ρ.set i none)) fun y ρ1 => match y.d with
    | .int k => b1 (atD xs k) fun o => b1 (otD o) fun ys => bd (evE C b ρ1) fun z ρ2 => match z.d with
      | .int l => b1 (atD ys l) fun p => match p with
        | .ol zs => bd (evE C e ρ2) fun _ ρ3 => gd (decide (zs.length < SZ)) (some (.nx ρ3))
        | _ => none
      | _ => none
    | _ => none
  | .ex e, ρ => bd (evE C e ρ) fun _ ρ1 => some (.nx ρ1)
  | .iff t a b, ρ => bd (evE C t ρ) fun x ρ1 => b1 (truD x.d) fun t => match t with
    | true => evSs C a ρ1
    | false => evSs C b ρ1
  | .whl t b, ρ => whlL (fun ρ => bd (evE C t ρ) fun x ρ1 => b1 (truD x.d) fun t => some (t, ρ1)) (fun ρ => evSs C b ρ) C.W ρ
  | .for_ t it b, ρ => bd (evI C it ρ) fun ds ρ1 => forL (fun d ρ' => b1 (bindT t d ρ') fun ρa => evSs C b ρa) ds ρ1
  | .ret e, ρ => bd (evE C e ρ) fun x ρ1 => some (.rt x ρ1)
  | .retn, ρ => some (.rt (.fz .none) ρ)
  | .frz i, ρ => b1 (get ρ i) fun o => some (.nx (ρ.set i (some (.fz o.d))))
  | .pas, ρ => some (.nx ρ)
  | .brk, ρ => some (.bk ρ)
  | .cnt, ρ => some (.ct ρ)
def evSs (C : Ctx) : Ss → Env → Option Fl
  | .nil, ρ => some (.nx ρ)
  | .cons s ss, ρ => b1 (evS C s ρ) fun f => match f with
    | .nx ρ1 => evSs C ss ρ1
    | .rt o ρ1 => some (.rt o ρ1)
    | .bk ρ1 => some (.bk ρ1)
    | .ct ρ1 => some (.ct ρ1)
end
def outsOf (ρ : Env) : List Nat → Option (List OV)
  | [] => some []
  | i :: is => b1 (getL ρ i) fun xs => b1 (outsOf ρ is) fun os => some (.ol xs :: os)
def startE (f : Fn) (args : List OV) : Env := args.map some ++ List.replicate (f.ns - f.np) none
def runFn (C : Ctx) (f : Fn) (args : List OV) : Option (OV × List OV) :=
  gd (decide (args.length = f.np)) (b1 (evSs C f.body (startE f args)) fun fl => match fl with
    | .rt o ρ => b1 (outsOf ρ f.io) fun os => some (o, os)
    | .nx ρ => b1 (outsOf ρ f.io) fun os => some (.fz .none, os)
    | _ => none)
/-- the defs of a text: F, at most n calls one in another, whiles of at most W turns -/
def evF (F : List Fn) (W : Nat) : Nat → Nat → List OV → Option (OV × List OV)
  | 0, _, _ => none
  | n + 1, g, args => b1 F[g]? fun f => runFn ⟨evF F W n, W⟩ f args
end PF

/-! PF, second part: trees with addresses, what a heap must hold. -/
namespace PF
open PySem PySem.Spec PyProof.Rows L2
mutual
/-- what data a value is: as the hand layer says it, and a def of the text as a value -/
inductive Dp (K : PySem.W.Frag) (H : Hp) : V → D → Prop
  | non : Dp K H .non .none
  | bl (b : Bool) : Dp K H (.bl b) (.bool b)
  | int (i : Int) : Dp K H (.int i) (.int i)
  | str (x : Str) : Dp K H (.str x) (.str x)
  | lst {a : Addr} {xs : List V} {ds : List D} : SqL K H a xs → DpAll K H xs ds → Dp K H (.ref a) (.list ds)
  | tup {a : Addr} {xs : List V} {ds : List D} : SqT K H a xs → DpAll K H xs ds → Dp K H (.ref a) (.tuple ds)
  | fn (x : Str) : Dp K H (.ref (He.ga K x)) (fnD x)
inductive DpAll (K : PySem.W.Frag) (H : Hp) : List V → List D → Prop
  | nil : DpAll K H [] []
  | cons {v : V} {vs : List V} {d : D} {ds : List D} : Dp K H v d → DpAll K H vs ds → DpAll K H (v :: vs) (d :: ds)
end
mutual
/-- no def within -/
def nd : D → Bool
  | .none => true
  | .bool _ => true
  | .int _ => true
  | .str _ => true
  | .list xs => nds xs
  | .tuple xs => nds xs
  | .dict _ => false
def nds : List D → Bool
  | [] => true
  | d :: ds => nd d && nds ds
end
mutual
theorem Dp.toK {K : PySem.W.Frag} {H : Hp} : ∀ {v : V} {d : D}, Dp K H v d → nd d = true → L2.Dp K H v d
  | _, _, .non, _ => .non
  | _, _, .bl b, _ => .bl b
  | _, _, .int i, _ => .int i
  | _, _, .str x, _ => .str x
  | _, _, .lst h a, n => .lst h (DpAll.toK a n)
  | _, _, .tup h a, n => .tup h (DpAll.toK a n)
  | _, _, .fn x, n => by cases n
theorem DpAll.toK {K : PySem.W.Frag} {H : Hp} : ∀ {vs : List V} {ds : List D}, DpAll K H vs ds → nds ds = true → L2.DpAll K H vs ds
  | _, _, .nil, _ => .nil
  | _, _, .cons (d := d) (ds := ds) h a, n => by
    have z := Bool.and_eq_true_iff.mp (show (nd d && nds ds) = true from n)
    exact .cons (h.toK z.1) (a.toK z.2)
end
mutual
theorem nd_of : ∀ d : D, d.canLay0 = true → nd d = true
  | .none, _ => rfl
  | .bool _, _ => rfl
  | .int _, _ => rfl
  | .str _, _ => rfl
  | .list xs, h => nds_of xs (by simpa [PyData.canLay0] using h)
  | .tuple xs, h => nds_of xs (by simpa [PyData.canLay0] using h)
  | .dict _, h => by simp [PyData.canLay0] at h
theorem nds_of : ∀ ds : List D, PyData.canLayAll0 ds = true → nds ds = true
  | [], _ => rfl
  | d :: ds, h => by
    have z : d.canLay0 = true ∧ PyData.canLayAll0 ds = true := by simpa [PyData.canLayAll0] using h
    show (nd d && nds ds) = true
    rw [nd_of d z.1, nds_of ds z.2]
    rfl
end
theorem nd_shaped {d : D} (h : SeqAt.shaped d = true) : nd d = true := nd_of d (Bool.and_eq_true_iff.mp h).1
inductive OA where
  | fz (v : V) (d : D)
  | ol (a : Addr) (xs : List OA)
  | ot (a : Addr) (xs : List OA)
def OA.v : OA → V
  | .fz v _ => v
  | .ol a _ => .ref a
  | .ot a _ => .ref a
mutual
def OA.o : OA → OV
  | .fz _ d => .fz d
  | .ol _ xs => .ol (OA.os xs)
  | .ot _ xs => .ot (OA.os xs)
def OA.os : List OA → List OV
  | [] => []
  | x :: xs => x.o :: OA.os xs
end
mutual
def OA.as : OA → List Addr
  | .fz _ _ => []
  | .ol a xs => a :: OA.ass xs
  | .ot _ xs => OA.ass xs
def OA.ass : List OA → List Addr
  | [] => []
  | x :: xs => x.as ++ OA.ass xs
end
mutual
def OA.ok (K : PySem.W.Frag) (Hf H : Hp) : OA → Prop
  | .fz v d => Dp K Hf v d
  | .ol a xs => H a = some (.lst (xs.map OA.v)) ∧ Hf a = none ∧ OA.oks K Hf H xs
  | .ot a xs => Hf a = some (.tup (xs.map OA.v)) ∧ OA.oks K Hf H xs
def OA.oks (K : PySem.W.Frag) (Hf H : Hp) : List OA → Prop
  | [] => True
  | x :: xs => x.ok K Hf H ∧ OA.oks K Hf H xs
end
theorem OA.os_map : ∀ xs : List OA, OA.os xs = xs.map OA.o
  | [] => rfl
  | x :: xs => by rw [OA.os, OA.os_map xs]; rfl
theorem OA.ass_flat : ∀ xs : List OA, OA.ass xs = xs.flatMap OA.as
  | [] => rfl
  | x :: xs => by rw [OA.ass, OA.ass_flat xs]; rfl
theorem OA.ass_app : ∀ xs ys : List OA, OA.ass (xs ++ ys) = OA.ass xs ++ OA.ass ys
  | [], _ => rfl
  | x :: xs, ys => by
    show x.as ++ OA.ass (xs ++ ys) = (x.as ++ OA.ass xs) ++ OA.ass ys
    rw [OA.ass_app xs ys, List.append_assoc]
theorem OA.oks_app {K : PySem.W.Frag} {Hf H : Hp} : ∀ {xs ys : List OA}, OA.oks K Hf H (xs ++ ys) ↔ OA.oks K Hf H xs ∧ OA.oks K Hf H ys
  | [], _ => ⟨fun h => ⟨trivial, h⟩, fun h => h.2⟩
  | x :: xs, ys => ⟨fun h => ⟨⟨h.1, (OA.oks_app.mp h.2).1⟩, (OA.oks_app.mp h.2).2⟩, fun h => ⟨h.1.1, OA.oks_app.mpr ⟨h.1.2, h.2⟩⟩⟩
theorem OA.oks_all {K : PySem.W.Frag} {Hf H : Hp} : ∀ {xs : List OA}, OA.oks K Hf H xs ↔ ∀ x ∈ xs, x.ok K Hf H
  | [] => ⟨fun _ _ h => absurd h List.not_mem_nil, fun _ => trivial⟩
  | x :: xs => ⟨fun h y hy => by
      rcases List.mem_cons.mp hy with e | e
      · rw [e]; exact h.1
      · exact OA.oks_all.mp h.2 y e, fun h => ⟨h x List.mem_cons_self, OA.oks_all.mpr fun y hy => h y (List.mem_cons_of_mem _ hy)⟩⟩
theorem OA.mem_ass {a : Addr} {xs : List OA} : a ∈ OA.ass xs ↔ ∃ x ∈ xs, a ∈ x.as := by
  rw [OA.ass_flat, List.mem_flatMap]
mutual
theorem dp_same {K : PySem.W.Frag} {H H' : Hp} (s : Same H H') : ∀ {v : V} {d : D}, Dp K H v d → Dp K H' v d
  | _, _, .non => .non
  | _, _, .bl b => .bl b
  | _, _, .int i => .int i
  | _, _, .str x => .str x
  | _, _, .lst h a => .lst (Same.seq s h) (dps_same s a)
  | _, _, .tup h a => .tup (by
      rcases h with (h | ⟨o, h⟩) | h
      · exact .inl (.inl (s _ _ h))
      · exact .inl (.inr ⟨o, s _ _ h⟩)
      · exact .inr h) (dps_same s a)
  | _, _, .fn x => .fn x
theorem dps_same {K : PySem.W.Frag} {H H' : Hp} (s : Same H H') : ∀ {vs : List V} {ds : List D}, DpAll K H vs ds → DpAll K H' vs ds
  | _, _, .nil => .nil
  | _, _, .cons h a => .cons (dp_same s h) (dps_same s a)
end
mutual
/-- what a tree owns is tracked -/
theorem OA.ok_some {K : PySem.W.Frag} {Hf H : Hp} : ∀ {x : OA}, x.ok K Hf H → ∀ a ∈ x.as, (∃ o, H a = some o) ∧ Hf a = none
  | .fz _ _, _, _, ha => absurd ha List.not_mem_nil
  | .ol b xs, h, a, ha => by
    rcases List.mem_cons.mp ha with e | e
    · rw [e]; exact ⟨⟨_, h.1⟩, h.2.1⟩
    · exact OA.oks_some h.2.2 a e
  | .ot b xs, h, a, ha => OA.oks_some h.2 a ha
theorem OA.oks_some {K : PySem.W.Frag} {Hf H : Hp} : ∀ {xs : List OA}, OA.oks K Hf H xs → ∀ a ∈ OA.ass xs, (∃ o, H a = some o) ∧ Hf a = none
  | [], _, _, ha => absurd ha List.not_mem_nil
  | x :: xs, h, a, ha => by
    rcases List.mem_append.mp ha with e | e
    · exact OA.ok_some h.1 a e
    · exact OA.oks_some h.2 a e
end
mutual
/-- a tree stays, if the frozen part only grows, but not into it, and its own objects stay -/
theorem OA.ok_stay {K : PySem.W.Frag} {Hf H Hf' H' : Hp} (s : Same Hf Hf') : ∀ {x : OA}, x.ok K Hf H → (∀ a ∈ x.as, H' a = H a ∧ Hf' a = none) → x.ok K Hf' H'
  | .fz _ _, h, _ => dp_same s h
  | .ol b xs, h, k => ⟨(k b List.mem_cons_self).1.trans h.1, (k b List.mem_cons_self).2, OA.oks_stay s h.2.2 fun a ha => k a (List.mem_cons_of_mem _ ha)⟩
  | .ot b xs, h, k => ⟨s _ _ h.1, OA.oks_stay s h.2 k⟩
theorem OA.oks_stay {K : PySem.W.Frag} {Hf H Hf' H' : Hp} (s : Same Hf Hf') : ∀ {xs : List OA}, OA.oks K Hf H xs → (∀ a ∈ OA.ass xs, H' a = H a ∧ Hf' a = none) → OA.oks K Hf' H' xs
  | [], _, _ => trivial
  | x :: xs, h, k => ⟨OA.ok_stay s h.1 fun a ha => k a (List.mem_append_left _ ha), OA.oks_stay s h.2 fun a ha => k a (List.mem_append_right _ ha)⟩
end
/-- the world: the frozen part within the heap, all trees in use, none owned twice -/
structure WR (K : PySem.W.Frag) (Hf H : Hp) (T : List OA) : Prop where
  sub : Same Hf H
  ok : OA.oks K Hf H T
  nd : (OA.ass T).Nodup
section
variable {K : PySem.W.Frag} {Hf H Hf' H' : Hp} {T T' : List OA} {x y : OA} {xs : List OA}
theorem ass_perm (p : T.Perm T') : (OA.ass T).Perm (OA.ass T') := by
  rw [OA.ass_flat, OA.ass_flat]
  exact p.flatMap_right _
theorem WR.perm (w : WR K Hf H T) (p : T.Perm T') : WR K Hf H T' :=
  ⟨w.sub, OA.oks_all.mpr fun x hx => OA.oks_all.mp w.ok x (p.mem_iff.mpr hx), (ass_perm p).nodup_iff.mp w.nd⟩
theorem WR.tail (w : WR K Hf H (x :: T)) : WR K Hf H T := ⟨w.sub, w.ok.2, (List.nodup_append.mp w.nd).2.1⟩
theorem WR.right (w : WR K Hf H (xs ++ T)) : WR K Hf H T := by
  have := w.nd
  rw [OA.ass_app] at this
  exact ⟨w.sub, (OA.oks_app.mp w.ok).2, (List.nodup_append.mp this).2.1⟩
theorem WR.left (w : WR K Hf H (xs ++ T)) : WR K Hf H xs := by
  have := w.nd
  rw [OA.ass_app] at this
  exact ⟨w.sub, (OA.oks_app.mp w.ok).1, (List.nodup_append.mp this).1⟩
theorem WR.head (w : WR K Hf H (x :: T)) : x.ok K Hf H := w.ok.1
/-- a frozen tree more: any that is so -/
theorem WR.addF {v : V} {d : D} (w : WR K Hf H T) (h : Dp K Hf v d) : WR K Hf H (.fz v d :: T) := ⟨w.sub, ⟨h, w.ok⟩, w.nd⟩
theorem WR.dp {v : V} {d : D} (w : WR K Hf H (.fz v d :: T)) : Dp K H v d := dp_same w.sub w.ok.1
theorem WR.dpf {v : V} {d : D} (w : WR K Hf H (.fz v d :: T)) : Dp K Hf v d := w.ok.1
theorem WR.fresh (w : WR K Hf H T) {p : Addr} (n : H p = none) : Hf p = none ∧ p ∉ OA.ass T := by
  constructor
  · cases e : Hf p with
    | none => rfl
    | some o => rw [w.sub p o e] at n; cases n
  · intro hp
    obtain ⟨⟨o, e⟩, _⟩ := OA.oks_some w.ok p hp
    rw [e] at n; cases n
theorem same_upd {H : Hp} {p : Addr} {o : HO} (n : H p = none) : Same H (upd H p o) := fun b u e => by
  rw [upd_ne (ne_of_none e n)]; exact e
theorem same_upd2 {Hf H : Hp} {p : Addr} {o : HO} (s : Same Hf H) : Same (upd Hf p o) (upd H p o) := fun b u e => by
  by_cases hb : b = p
  · subst hb; rw [upd_same] at e ⊢; exact e
  · rw [upd_ne hb] at e ⊢; exact s b u e
theorem same_updR {Hf H : Hp} {p : Addr} {o : HO} (s : Same Hf H) (n : Hf p = none) : Same Hf (upd H p o) := fun b u e => by
  rw [upd_ne (ne_of_none e n)]; exact s b u e
/-- a new list of trees that stood by themselves -/
theorem WR.newL (w : WR K Hf H (xs ++ T)) {p : Addr} (n : H p = none) : WR K Hf (upd H p (.lst (xs.map OA.v))) (.ol p xs :: T) := by
  obtain ⟨nf, np⟩ := w.fresh n
  have k : OA.oks K Hf (upd H p (.lst (xs.map OA.v))) (xs ++ T) := OA.oks_stay (Same.refl _) w.ok fun a ha => ⟨upd_ne fun e => np (e ▸ ha), (OA.oks_some w.ok a ha).2⟩
  refine ⟨same_updR w.sub nf, ⟨⟨upd_same, nf, (OA.oks_app.mp k).1⟩, (OA.oks_app.mp k).2⟩, ?_⟩
  show (p :: OA.ass xs ++ OA.ass T).Nodup
  rw [List.cons_append, ← OA.ass_app]
  exact List.nodup_cons.mpr ⟨np, w.nd⟩
/-- a new tuple that holds trees of one's own -/
theorem WR.newO (w : WR K Hf H (xs ++ T)) {p : Addr} (n : H p = none) : Same Hf (upd Hf p (.tup (xs.map OA.v))) ∧ WR K (upd Hf p (.tup (xs.map OA.v))) (upd H p (.tup (xs.map OA.v))) (.ot p xs :: T) := by
  obtain ⟨nf, np⟩ := w.fresh n
  have k : OA.oks K (upd Hf p (.tup (xs.map OA.v))) (upd H p (.tup (xs.map OA.v))) (xs ++ T) := OA.oks_stay (same_upd nf) w.ok fun a ha => by
    have ne : a ≠ p := fun e => np (e ▸ ha)
    exact ⟨upd_ne ne, by rw [upd_ne ne]; exact (OA.oks_some w.ok a ha).2⟩
  refine ⟨same_upd nf, same_upd2 w.sub, ⟨⟨upd_same, (OA.oks_app.mp k).1⟩, (OA.oks_app.mp k).2⟩, ?_⟩
  show (OA.ass xs ++ OA.ass T).Nodup
  rw [← OA.ass_app]
  exact w.nd
/-- a new frozen tuple -/
theorem WR.newT (w : WR K Hf H T) {p : Addr} {vs : List V} {ds : List D} (n : H p = none) (h : DpAll K Hf vs ds) : Same Hf (upd Hf p (.tup vs)) ∧ WR K (upd Hf p (.tup vs)) (upd H p (.tup vs)) (.fz (.ref p) (.tuple ds) :: T) := by
  obtain ⟨nf, np⟩ := w.fresh n
  have k : OA.oks K (upd Hf p (.tup vs)) (upd H p (.tup vs)) T := OA.oks_stay (same_upd nf) w.ok fun a ha => by
    have ne : a ≠ p := fun e => np (e ▸ ha)
    exact ⟨upd_ne ne, by rw [upd_ne ne]; exact (OA.oks_some w.ok a ha).2⟩
  exact ⟨same_upd nf, same_upd2 w.sub, ⟨.tup (SqT.of upd_same) (dps_same (same_upd nf) h), k⟩, w.nd⟩
/-- .. a new list of frozen items -/
theorem WR.newF (w : WR K Hf H T) {p : Addr} {vs : List V} {ds : List D} (n : H p = none) (h : DpAll K Hf vs ds) : ∃ x : OA, x.v = .ref p ∧ x.o = .ol (fzs ds) ∧ WR K Hf (upd H p (.lst vs)) (x :: T) := by
  have mk : ∀ {vs : List V} {ds : List D}, DpAll K Hf vs ds → ∃ xs : List OA, xs.map OA.v = vs ∧ OA.os xs = fzs ds ∧ OA.oks K Hf H xs ∧ OA.ass xs = [] := by
    intro vs ds h
    induction ds generalizing vs with
    | nil => cases h; exact ⟨[], rfl, rfl, trivial, rfl⟩
    | cons d ds ih =>
      cases h with
      | cons h1 h2 =>
        rename_i v vs
        obtain ⟨xs, e1, e2, e3, e4⟩ := ih h2
        refine ⟨.fz v d :: xs, ?_, ?_, ⟨h1, e3⟩, ?_⟩
        · show v :: xs.map OA.v = v :: vs
          rw [e1]
        · show OV.fz d :: OA.os xs = OV.fz d :: fzs ds
          rw [e2]
        · show [] ++ OA.ass xs = []
          rw [e4]; rfl
  obtain ⟨xs, e1, e2, e3, e4⟩ := mk h
  refine ⟨.ol p xs, rfl, ?_, ?_⟩
  · show OV.ol (OA.os xs) = _
    rw [e2]
  · have w2 : WR K Hf H (xs ++ T) := ⟨w.sub, OA.oks_app.mpr ⟨e3, w.ok⟩, by rw [OA.ass_app, e4]; exact w.nd⟩
    have := w2.newL n
    rw [e1] at this
    exact this
end
/-- freezing -/
def frzH (Hf H : Hp) (as : List Addr) : Hp := fun a => if a ∈ as then H a else Hf a
section
variable {K : PySem.W.Frag} {Hf H : Hp} {T : List OA} {x : OA}
theorem frzH_in {as : List Addr} {a : Addr} (h : a ∈ as) : frzH Hf H as a = H a := by unfold frzH; rw [if_pos h]
theorem frzH_out {as : List Addr} {a : Addr} (h : a ∉ as) : frzH Hf H as a = Hf a := by unfold frzH; rw [if_neg h]
theorem frzH_same {as : List Addr} (n : ∀ a ∈ as, Hf a = none) : Same Hf (frzH Hf H as) := fun a o e => by
  by_cases h : a ∈ as
  · rw [n a h] at e; cases e
  · rw [frzH_out h]; exact e
theorem frzH_sub {as : List Addr} (s : Same Hf H) : Same (frzH Hf H as) H := fun a o e => by
  by_cases h : a ∈ as
  · rw [frzH_in h] at e; exact e
  · rw [frzH_out h] at e; exact s a o e
mutual
theorem OA.frz {Hg : Hp} (s : Same Hf Hg) : ∀ {x : OA}, x.ok K Hf H → (∀ a ∈ x.as, Hg a = H a) → Dp K Hg x.v x.o.d
  | .fz v d, h, _ => dp_same s h
  | .ol a xs, h, k => .lst (SqL.of (by rw [k a List.mem_cons_self]; exact h.1)) (OA.frzs s h.2.2 fun b hb => k b (List.mem_cons_of_mem _ hb))
  | .ot a xs, h, k => .tup (SqT.of (s _ _ h.1)) (OA.frzs s h.2 k)
theorem OA.frzs {Hg : Hp} (s : Same Hf Hg) : ∀ {xs : List OA}, OA.oks K Hf H xs → (∀ a ∈ OA.ass xs, Hg a = H a) → DpAll K Hg (xs.map OA.v) (OV.ds (OA.os xs))
  | [], _, _ => .nil
  | x :: xs, h, k => .cons (OA.frz s h.1 fun a ha => k a (List.mem_append_left _ ha)) (OA.frzs s h.2 fun a ha => k a (List.mem_append_right _ ha))
end
theorem WR.freeze (w : WR K Hf H (x :: T)) : ∃ Hf', Same Hf Hf' ∧ WR K Hf' H (.fz x.v x.o.d :: T) := by
  have n : ∀ a ∈ x.as, Hf a = none := fun a ha => (OA.ok_some w.ok.1 a ha).2
  have dj : ∀ a ∈ OA.ass T, a ∉ x.as := fun a ha hx => (List.nodup_append.mp w.nd).2.2 a hx a ha rfl
  refine ⟨frzH Hf H x.as, frzH_same n, frzH_sub w.sub, ⟨OA.frz (frzH_same n) w.ok.1 fun a ha => frzH_in ha, ?_⟩, (List.nodup_append.mp w.nd).2.1⟩
  exact OA.oks_stay (frzH_same n) w.ok.2 fun a ha => ⟨rfl, by rw [frzH_out (dj a ha)]; exact (OA.oks_some w.ok.2 a ha).2⟩
theorem WR.freezes : ∀ {xs : List OA} {Hf : Hp}, WR K Hf H (xs ++ T) → ∃ Hf', Same Hf Hf' ∧ WR K Hf' H T ∧ DpAll K Hf' (xs.map OA.v) (OV.ds (OA.os xs))
  | [], Hf, w => ⟨Hf, Same.refl _, w, .nil⟩
  | x :: xs, Hf, w => by
    obtain ⟨Hf1, s1, w1⟩ := WR.freeze (x := x) (T := xs ++ T) w
    obtain ⟨Hf2, s2, w2, h2⟩ := WR.freezes (xs := xs) w1.tail
    exact ⟨Hf2, s1.trans s2, w2, .cons (dp_same s2 w1.ok.1) h2⟩
end
/-! ### slots and their trees -/
theorem set_id {α : Type} : ∀ {l : List α} {i : Nat} {x : α}, l[i]? = some x → l.set i x = l
  | [], _, _, h => rfl
  | a :: l, 0, x, h => by
    have e : a = x := by simpa using h
    rw [e]; rfl
  | a :: l, i + 1, x, h => by
    show a :: l.set i x = a :: l
    rw [set_id (l := l) (i := i) (by simpa using h)]
abbrev An := List (Option OA)
def tr (α : An) : List OA := α.filterMap id
def erase (α : An) : Env := α.map (Option.map OA.o)
structure Rel (σ : L2.St) (ρ : Env) (α : An) : Prop where
  er : erase α = ρ
  ln : σ.length = α.length
  at_ : ∀ (i : Nat) (x : OA), α[i]? = some (some x) → σ[i]? = some (some x.v)
section
variable {σ : L2.St} {ρ : Env} {α : An}
theorem Rel.slot (r : Rel σ ρ α) {i : Nat} {o : OV} (h : ρ[i]? = some (some o)) : ∃ x, α[i]? = some (some x) ∧ x.o = o ∧ σ[i]? = some (some x.v) := by
  rw [← r.er] at h
  unfold erase at h
  rw [List.getElem?_map] at h
  cases e : α[i]? with
  | none => rw [e] at h; cases h
  | some y =>
    rw [e] at h
    cases y with
    | none => cases h
    | some x => exact ⟨x, rfl, by simpa using h, r.at_ i x e⟩
theorem Rel.set (r : Rel σ ρ α) (i : Nat) (x : OA) : Rel (σ.set i (some x.v)) (ρ.set i (some x.o)) (α.set i (some x)) := by
  refine ⟨?_, by simpa using r.ln, fun j y h => ?_⟩
  · rw [← r.er]
    unfold erase
    rw [List.map_set]
    rfl
  · by_cases hj : i = j
    · subst hj
      rw [List.getElem?_set] at h ⊢
      by_cases hl : i < α.length
      · rw [if_pos rfl, if_pos hl] at h
        rw [if_pos rfl, if_pos (by rw [r.ln]; exact hl)]
        have e : x = y := by simpa using h
        rw [e]
      · rw [if_pos rfl, if_neg hl] at h
        cases h
    · rw [List.getElem?_set_ne hj] at h ⊢
      exact r.at_ j y h
/-- a slot's tree exchanged for one at the same place -/
theorem Rel.put (r : Rel σ ρ α) {i : Nat} {x y : OA} (h : α[i]? = some (some x)) (e : y.v = x.v) : Rel σ (ρ.set i (some y.o)) (α.set i (some y)) := by
  have q := r.set i y
  have z : σ.set i (some y.v) = σ := by
    rw [e]
    exact set_id (r.at_ i x h)
  rw [z] at q
  exact q
theorem Rel.drop (r : Rel σ ρ α) (i : Nat) : Rel σ (ρ.set i none) (α.set i none) := by
  refine ⟨?_, by simpa using r.ln, fun j y h => ?_⟩
  · rw [← r.er]
    unfold erase
    rw [List.map_set]
    rfl
  · by_cases hj : i = j
    · subst hj
      rw [List.getElem?_set] at h
      split at h
      · split at h <;> cases h
      · exact r.at_ _ y h
    · rw [List.getElem?_set_ne hj] at h
      exact r.at_ j y h
end
theorem tr_take {α : An} {i : Nat} {x : OA} : α[i]? = some (some x) → (tr α).Perm (x :: tr (α.set i none)) := by
  induction α generalizing i with
  | nil => intro h; simp at h
  | cons a α ih =>
    intro h
    cases i with
    | zero =>
      have e : a = some x := by simpa using h
      subst e
      exact List.Perm.refl _
    | succ i =>
      have h' : α[i]? = some (some x) := by simpa using h
      cases a with
      | none => exact ih h'
      | some y =>
        show (y :: tr α).Perm (x :: y :: tr (α.set i none))
        exact ((ih h').cons y).trans (List.Perm.swap x y _)
theorem tr_put {α : An} {i : Nat} {x : OA} : i < α.length → (tr (α.set i (some x))).Perm (x :: tr (α.set i none)) := by
  intro h
  have e : (α.set i (some x))[i]? = some (some x) := by
    rw [List.getElem?_set_self h]
  have := tr_take e
  rw [List.set_set] at this
  exact this
theorem tr_skip {α : An} {i : Nat} {x : OA} (h : ¬ i < α.length) : α.set i (some x) = α := List.set_eq_of_length_le (by omega)
section
variable {K : PySem.W.Frag} {Hf H : Hp} {σ : L2.St} {ρ : Env} {α : An} {τ : List OA} {x y : OA} {i : Nat}
/-- the tree of a slot out of the slots -/
theorem WR.takeS (w : WR K Hf H (tr α ++ τ)) (h : α[i]? = some (some x)) : WR K Hf H (x :: (tr (α.set i none) ++ τ)) :=
  w.perm ((tr_take h).append_right τ)
/-- .. and into them -/
theorem WR.putS (w : WR K Hf H (x :: (tr (α.set i none) ++ τ))) (h : i < α.length) : WR K Hf H (tr (α.set i (some x)) ++ τ) :=
  w.perm (((tr_put h).append_right τ).symm)
theorem tr_none_sub : ∀ {α : An} {i : Nat}, ∃ l, (tr α).Perm (l ++ tr (α.set i none)) := by
  intro α
  induction α with
  | nil => exact fun {i} => ⟨[], List.Perm.refl _⟩
  | cons a α ih =>
    intro i
    cases i with
    | zero =>
      cases a with
      | none => exact ⟨[], List.Perm.refl _⟩
      | some y => exact ⟨[y], List.Perm.refl _⟩
    | succ i =>
      obtain ⟨l, p⟩ := ih (i := i)
      cases a with
      | none => exact ⟨l, p⟩
      | some y => exact ⟨l, (p.cons y).trans (List.perm_middle (a := y) (l₁ := l)).symm⟩
theorem WR.dropS (w : WR K Hf H (tr α ++ τ)) : WR K Hf H (tr (α.set i none) ++ τ) := by
  obtain ⟨l, p⟩ := tr_none_sub (α := α) (i := i)
  have := w.perm (p.append_right τ)
  rw [List.append_assoc] at this
  exact this.right
/-- a tree is stored at a slot (whatever stood there is forgotten) -/
theorem WR.store (w : WR K Hf H (x :: (tr α ++ τ))) : WR K Hf H (tr (α.set i (some x)) ++ τ) := by
  by_cases h : i < α.length
  · have p : (x :: (tr α ++ τ)).Perm (tr α ++ (x :: τ)) := List.perm_middle.symm
    have w2 := (w.perm p).dropS (i := i)
    have p2 : (tr (α.set i none) ++ (x :: τ)).Perm (x :: (tr (α.set i none) ++ τ)) := List.perm_middle
    exact (w2.perm p2).putS h
  · rw [tr_skip h]; exact w.tail
end
end PF

/-! PF: a tuple times an int, any int. -/
namespace PF
open PySem PySem.Spec PyProof.Rows L2
abbrev tObj (xs : Array Value) (n : Nat) (dd : Option Addr) (sl : Array (Option Value)) : Obj := { cls := .type "tuple", dict := dd, data := .seq xs n, slots := sl }
theorem mulT_same (a : Addr) (xs : Array Value) (n : Nat) (dd : Option Addr) (sl : Array (Option Value)) (x : Int) (u : Tok)
    (g0 : (decide (x < -(2 ^ 63)) || decide (x ≥ 2 ^ 63)) = false) (g1 : (xs.isEmpty || x == 1) = true) :
    Meets (Builtin.«tuple.__mul__» ⟨[.ref a, .int x u], []⟩) (fun _ R s => s.heap.get? a = some (tObj xs n dd sl) ∧ R (.ok (.ret (.ref a))) s) :=
  .of_wp fun prog w A R s h => by
    obtain ⟨hp, gs, dr, tk, os⟩ := s
    obtain ⟨ha, hR⟩ := h
    have z1 := AutoSeq1.idx_int
    wp_walk using wpAny_loadPart' ha
    refine wpAny_ite_false (decide_eq_false (by rw [g0]; decide)) ?_
    wp_walk using wpAny_loadPart' ha
    exact ⟨_, rfl, hR⟩
theorem mulT_none (a : Addr) (xs : Array Value) (n : Nat) (dd : Option Addr) (sl : Array (Option Value)) (x : Int) (u : Tok)
    (g0 : (decide (x < -(2 ^ 63)) || decide (x ≥ 2 ^ 63)) = false) (g1 : (xs.isEmpty || x == 1) = false) (g2 : (decide (x ≤ 0) || xs.isEmpty) = true) :
    Meets (Builtin.«tuple.__mul__» ⟨[.ref a, .int x u], []⟩) (fun _ R s => s.heap.get? a = some (tObj xs n dd sl) ∧
      R (.ok (.ret (Value.ref s.heap.objs.size))) { s with heap := s.heap.push { cls := Value.type "tuple", data := Data.seq #[] }, toks := s.toks }) :=
  .of_wp fun prog w A R s h => by
    obtain ⟨hp, gs, dr, tk, os⟩ := s
    obtain ⟨ha, hR⟩ := h
    have z1 := AutoSeq1.idx_int
    wp_walk using wpAny_loadPart' ha
    refine wpAny_ite_false (decide_eq_false (by rw [g0]; decide)) ?_
    wp_walk using wpAny_loadPart' ha
    repeat (first
      | (refine wpAny_ite_false (decide_eq_false (Bool.eq_false_iff.mp g1)) ?_; wp_walk using wpAny_loadPart' ha)
      | (refine wpAny_ite_true (decide_eq_true g2) ?_; wp_walk using wpAny_loadPart' ha))
    exact ⟨_, rfl, hR⟩
section
variable {X : Cx}
def rMulT (K : PySem.W.Frag) : R2 := fun x y H Q => ∃ l k xs, x = .ref l ∧ y = .int k ∧ SqT K H l xs ∧ -1000 ≤ k ∧ k ≤ 1000 ∧ xs.length ≤ 1000 ∧
  ((List.replicate k.toNat xs).flatten = xs → Q (.ref l) H) ∧ ∀ p, H p = none → Q (.ref p) (upd H p (.tup (List.replicate k.toNat xs).flatten))
theorem op_mulT : OpR X (binaryOp .Mult) (rMulT X.K) := by
  intro pins s σ H x y v u Q I rx ry h
  obtain ⟨l, k, xs, rfl, rfl, hT, k1, k2, few, q0, q1⟩ := h
  by_cases hx : xs ≠ [] ∧ 2 ≤ k
  · exact op_repT pins s σ H _ _ v u Q I rx ry ⟨l, k, xs, rfl, rfl, hT, hx.1, hx.2, k2, few, q1⟩
  cases rx
  obtain ⟨t, rfl⟩ := ry
  obtain ⟨vs, r, ⟨⟨cls, dd, data, sl⟩, at1, ec, n, ed⟩, _⟩ := I.tuple hT
  simp only at ec ed
  subst ec ed
  have len : vs.length = xs.length := r.length.symm
  have e0 : vs.toArray.isEmpty = decide (xs = []) := by
    cases vs with
    | nil => cases xs with
      | nil => rfl
      | cons _ _ => cases len
    | cons _ _ => cases xs with
      | nil => cases len
      | cons _ _ => rfl
  have g0 : (decide (k < -(2 ^ 63)) || decide (k ≥ 2 ^ 63)) = false := by
    rw [Bool.or_eq_false_iff]
    exact ⟨decide_eq_false (by omega), decide_eq_false (by omega)⟩
  by_cases h1 : xs = [] ∨ k = 1
  · have g1 : (vs.toArray.isEmpty || k == 1) = true := by
      rw [e0, Bool.or_eq_true]
      exact h1.imp decide_eq_true beq_iff_eq.mpr
    have same : (List.replicate k.toNat xs).flatten = xs := by
      rcases h1 with e | e
      · subst e; simp
      · subst e; simp
    refine wpAny_binaryOp_repeat_ref (U := "int") (T := "tuple") (by decide) ⟨_, at1, rfl⟩ (fun z => typeIs_int z k t) noFill_tuple_mul F.fills_int_mul F.slot_int_rmul repeat_tuple F.slot_int_index.lookup ?_
    refine call_meets F.slot_int_rmul (typeIs_int s k t) F.entry_int_rmul (F.args_int_rmul_2 _ _) (int_rmul_tuple k t l vs.toArray n dd sl) ⟨at1, rfl, ⟨_, at1, rfl⟩, ?_⟩
    refine call_meets F.slot_tuple_mul ⟨_, at1, rfl⟩ F.entry_tuple_mul (F.args_tuple_mul_2 _ _) (mulT_same l vs.toArray n dd sl k t g0 g1) ⟨at1, ?_⟩
    exact ⟨.ref l, H, I, rfl, q0 same⟩
  · have n1 : xs ≠ [] := fun e => h1 (.inl e)
    have n2 : k ≠ 1 := fun e => h1 (.inr e)
    have n3 : k ≤ 0 := by
      have : ¬ 2 ≤ k := fun e => hx ⟨n1, e⟩
      omega
    have g1 : (vs.toArray.isEmpty || k == 1) = false := by
      rw [e0, Bool.or_eq_false_iff]
      exact ⟨decide_eq_false n1, beq_eq_false_iff_ne.mpr n2⟩
    have g2 : (decide (k ≤ 0) || vs.toArray.isEmpty) = true := by rw [decide_eq_true n3]; rfl
    have none1 : (List.replicate k.toNat xs).flatten = [] := by
      rw [show k.toNat = 0 by omega]; rfl
    rw [none1] at q1
    refine wpAny_binaryOp_repeat_ref (U := "int") (T := "tuple") (by decide) ⟨_, at1, rfl⟩ (fun z => typeIs_int z k t) noFill_tuple_mul F.fills_int_mul F.slot_int_rmul repeat_tuple F.slot_int_index.lookup ?_
    refine call_meets F.slot_int_rmul (typeIs_int s k t) F.entry_int_rmul (F.args_int_rmul_2 _ _) (int_rmul_tuple k t l vs.toArray n dd sl) ⟨at1, rfl, ⟨_, at1, rfl⟩, ?_⟩
    refine call_meets F.slot_tuple_mul ⟨_, at1, rfl⟩ F.entry_tuple_mul (F.args_tuple_mul_2 _ _) (mulT_none l vs.toArray n dd sl k t g0 g1 g2) ⟨at1, ?_⟩
    refine ⟨.ref s.heap.objs.size, _, I.laid (o := .tup []) (t' := s.toks) (fun b ob q => Heap.get?_push_of_some _ q) (Nat.le_refl _) ?_, rfl, q1 _ (I.hok.fresh (Nat.le_refl _))⟩
    exact ⟨Nat.zero_le _, [], .nil, IsTup.new _ _⟩
end
end PF

/-! PF, third part: operations on plain data are what the layer's rules say. -/
namespace PF
open PySem PySem.Spec PyProof.Rows L2
theorem sz_eq : sizeLine = SZ := rfl
/-- a result is handed on -/
def Giv (K : PySem.W.Frag) (Hf H : Hp) (T : List OA) (r : OV) (Q : VK) : Prop := ∀ (H' Hf' : Hp) (x : OA), Same Hf Hf' → x.o = r → WR K Hf' H' (x :: T) → Q x.v H'
section
variable {K : PySem.W.Frag} {Hf H : Hp} {T : List OA} {Q : VK}
theorem giv_f {v : V} {d : D} (w : WR K Hf H T) (h : Dp K Hf v d) (g : Giv K Hf H T (.fz d) Q) : Q v H := g H Hf (.fz v d) (Same.refl _) rfl (w.addF h)
theorem giv_L {p : Addr} {vs : List V} {ds : List D} (w : WR K Hf H T) (n : H p = none) (h : DpAll K Hf vs ds) (g : Giv K Hf H T (.ol (fzs ds)) Q) : Q (.ref p) (upd H p (.lst vs)) := by
  obtain ⟨x, e1, e2, w2⟩ := w.newF n h
  rw [← e1]
  exact g _ _ x (Same.refl _) e2 w2
theorem giv_T {p : Addr} {vs : List V} {ds : List D} (w : WR K Hf H T) (n : H p = none) (h : DpAll K Hf vs ds) (g : Giv K Hf H T (.fz (.tuple ds)) Q) : Q (.ref p) (upd H p (.tup vs)) := by
  obtain ⟨s2, w2⟩ := w.newT n h
  exact g _ _ (.fz (.ref p) (.tuple ds)) s2 rfl w2
/-! what a value of known data is -/
theorem dp_int {v : V} {i : Int} (h : Dp K H v (.int i)) : v = .int i := by cases h; rfl
theorem dp_bool {v : V} {b : Bool} (h : Dp K H v (.bool b)) : v = .bl b := by cases h; rfl
theorem dp_str {v : V} {x : Str} (h : Dp K H v (.str x)) : v = .str x := by cases h; rfl
theorem dp_none {v : V} (h : Dp K H v .none) : v = .non := by cases h; rfl
theorem dp_list {v : V} {ds : List D} (h : Dp K H v (.list ds)) : ∃ a xs, v = .ref a ∧ SqL K H a xs ∧ DpAll K H xs ds := by cases h; exact ⟨_, _, rfl, by assumption, by assumption⟩
theorem dp_tuple {v : V} {ds : List D} (h : Dp K H v (.tuple ds)) : ∃ a xs, v = .ref a ∧ SqT K H a xs ∧ DpAll K H xs ds := by cases h; exact ⟨_, _, rfl, by assumption, by assumption⟩
theorem dpa_len : ∀ {xs : List V} {ds : List D}, DpAll K H xs ds → xs.length = ds.length
  | _, _, .nil => rfl
  | _, _, .cons _ t => by rw [List.length_cons, List.length_cons, dpa_len t]
theorem dpa_app : ∀ {xs ys : List V} {ds es : List D}, DpAll K H xs ds → DpAll K H ys es → DpAll K H (xs ++ ys) (ds ++ es)
  | _, _, _, _, .nil, h => h
  | _, _, _, _, .cons a t, h => .cons a (dpa_app t h)
theorem dpa_drop : ∀ (n : Nat) {xs : List V} {ds : List D}, DpAll K H xs ds → DpAll K H (xs.drop n) (ds.drop n)
  | 0, _, _, h => h
  | _ + 1, _, _, .nil => .nil
  | n + 1, _, _, .cons _ t => dpa_drop n t
theorem dpa_take : ∀ (n : Nat) {xs : List V} {ds : List D}, DpAll K H xs ds → DpAll K H (xs.take n) (ds.take n)
  | 0, _, _, _ => .nil
  | _ + 1, _, _, .nil => .nil
  | n + 1, _, _, .cons a t => .cons a (dpa_take n t)
theorem dpa_get : ∀ {xs : List V} {ds : List D} {i : Nat} {d : D}, DpAll K H xs ds → ds[i]? = some d → ∃ v, xs[i]? = some v ∧ Dp K H v d
  | _, _, _, _, .nil, e => by simp at e
  | _, _, 0, _, .cons a _, e => by simp at e; subst e; exact ⟨_, rfl, a⟩
  | _, _, i + 1, d, .cons _ t, e => by
    obtain ⟨v, h1, h2⟩ := dpa_get (i := i) (d := d) t (by simpa using e)
    exact ⟨v, by simpa using h1, h2⟩
theorem dpa_at {xs : List V} {ds : List D} {i : Nat} {v : V} : DpAll K H xs ds → xs[i]? = some v → ∃ d, ds[i]? = some d ∧ Dp K H v d := by
  intro h e
  have hl := dpa_len h
  have hi : i < ds.length := by rw [← hl]; exact (List.getElem?_eq_some_iff.mp e).1
  obtain ⟨v', h1, h2⟩ := dpa_get h (List.getElem?_eq_getElem hi)
  rw [e] at h1
  cases h1
  exact ⟨_, List.getElem?_eq_getElem hi, h2⟩
theorem dpa_ints : ∀ {ds : List D} {vs : List V} {is : List Int}, DpAll K H vs ds → intsD ds = some is → vs = is.map V.int
  | [], _, is, h, e => by cases h; cases e; rfl
  | d :: ds, _, is, h, e => by
    cases h with
    | cons a t =>
      cases d with
      | int i =>
        obtain ⟨js, e1, e2⟩ := b1_inv (show b1 (intsD ds) (fun is => some (i :: is)) = some is from e)
        cases e2
        rw [dp_int a, dpa_ints t e1]; rfl
      | none => cases e
      | bool b => cases e
      | str x => cases e
      | list x => cases e
      | tuple x => cases e
      | dict x => cases e
theorem dpa_bools : ∀ {ds : List D} {vs : List V} {is : List Bool}, DpAll K H vs ds → boolsD ds = some is → vs = is.map V.bl
  | [], _, is, h, e => by cases h; cases e; rfl
  | d :: ds, _, is, h, e => by
    cases h with
    | cons a t =>
      cases d with
      | bool i =>
        obtain ⟨js, e1, e2⟩ := b1_inv (show b1 (boolsD ds) (fun is => some (i :: is)) = some is from e)
        cases e2
        rw [dp_bool a, dpa_bools t e1]; rfl
      | none => cases e
      | int b => cases e
      | str x => cases e
      | list x => cases e
      | tuple x => cases e
      | dict x => cases e
theorem sqt_same {H' : Hp} {a : Addr} {xs : List V} (s : Same H H') (h : SqT K H a xs) : SqT K H' a xs := by
  rcases h with (h | ⟨o, h⟩) | h
  · exact .inl (.inl (s _ _ h))
  · exact .inl (.inr ⟨o, s _ _ h⟩)
  · exact .inr h
theorem tru_of {v : V} {d : D} {b : Bool} (h : Dp K H v d) (e : truD d = some b) : TruV K v H b := by
  cases d with
  | none => cases h; cases e; rfl
  | bool c => cases h; cases e; rfl
  | int i => cases h; cases e; rfl
  | str x =>
    cases h
    obtain ⟨e1, e2⟩ := gd_inv e
    cases e2
    exact ⟨of_decide_eq_true e1, rfl⟩
  | list xs =>
    obtain ⟨a, ys, rfl, hs, ha⟩ := dp_list h
    have e := Option.some.inj (show some (!xs.isEmpty) = some b from e)
    refine .inl ⟨ys, hs, ?_⟩
    rw [← e]
    have := dpa_len ha
    cases xs <;> cases ys <;> simp_all
  | tuple xs =>
    obtain ⟨a, ys, rfl, hs, ha⟩ := dp_tuple h
    have e := Option.some.inj (show some (!xs.isEmpty) = some b from e)
    refine .inr (.inl ⟨ys, hs, ?_⟩)
    rw [← e]
    have := dpa_len ha
    cases xs <;> cases ys <;> simp_all
  | dict x => cases e
end
section
variable {X : Cx}
/-- a two-place operation on such data -/
def R2ok (X : Cx) (f : Value → Value → Sem Value) (dx dy : D) (r : OV) : Prop :=
  ∃ rr : R2, OpR X f rr ∧ ∀ (u v : V) (Hf H : Hp) (T : List OA) (Q : VK), Dp X.K Hf u dx → Dp X.K Hf v dy → WR X.K Hf H T → Giv X.K Hf H T r Q → rr u v H Q
def opA : Bop → Operator
  | .add => .Add
  | .sub => .Sub
  | .mul => .Mult
  | .fdiv => .FloorDiv
  | .mod => .Mod
  | .pow => .Pow
theorem op_fdivA : OpR X (binaryOp .FloorDiv) (rI (fun _ j => j ≠ 0 ∧ j.natAbs.log2 < 9000) fun i j => .int (i.fdiv j)) := opI fun i j _ _ _ _ _ hc q =>
  floordiv_int hc.1 q (.inl (PyProof.noPylong_of_log2 hc.2))
theorem op_mulA : OpR X (binaryOp .Mult) (rI (fun i j => mulOk i j = true) fun i j => .int (i * j)) := by
  intro pins s σ H x y v u Q I rx ry h
  obtain ⟨i, j, e1, e2, hc, q⟩ := h
  unfold mulOk at hc
  rcases Bool.or_eq_true_iff.mp hc with h | h
  · have h' := of_decide_eq_true h
    exact op_mul pins s σ H x y v u Q I rx ry ⟨i, j, e1, e2, h', q⟩
  · have h' := of_decide_eq_true h
    exact op_mulW pins s σ H x y v u Q I rx ry ⟨i, j, e1, e2, h', q⟩
theorem r2_int {f : Value → Value → Sem Value} {C : Int → Int → Prop} {g : Int → Int → V} {i j : Int} {d : D} (h : OpR X f (rI C g)) (hc : C i j) (hd : ∀ Hf, Dp X.K Hf (g i j) d) : R2ok X f (.int i) (.int j) (.fz d) :=
  ⟨_, h, fun u v Hf H T Q hu hv w gv => ⟨i, j, dp_int hu, dp_int hv, hc, giv_f w (hd Hf) gv⟩⟩
theorem r2_int0 {f : Value → Value → Sem Value} {g : Int → Int → V} {i j : Int} {d : D} (h : OpR X f (rI0 g)) (hd : ∀ Hf, Dp X.K Hf (g i j) d) : R2ok X f (.int i) (.int j) (.fz d) :=
  ⟨_, h, fun u v Hf H T Q hu hv w gv => ⟨i, j, dp_int hu, dp_int hv, giv_f w (hd Hf) gv⟩⟩
theorem dpa_rep {Hf : Hp} {vs : List V} {ds : List D} (h : DpAll X.K Hf vs ds) : ∀ n : Nat, DpAll X.K Hf (List.replicate n vs).flatten (List.replicate n ds).flatten
  | 0 => .nil
  | n + 1 => by
    rw [List.replicate_succ, List.replicate_succ, List.flatten_cons, List.flatten_cons]
    exact dpa_app h (dpa_rep h n)
/-- two tracked lists, tracked or not -/
theorem bin_ok {op : Bop} {dx dy : D} {r : OV} (h : binD op dx dy = some r) : R2ok X (binaryOp (opA op)) dx dy r := by
  cases op with
  | add =>
    cases dx with
    | int i =>
      cases dy with
      | int j => cases h; exact r2_int0 op_add fun _ => .int _
      | _ => cases h
    | str x =>
      cases dy with
      | str y =>
        obtain ⟨h1, h2⟩ := gd_inv (show gd (decide (x.length + y.length ≤ SZ)) _ = some r from h)
        cases h2
        exact ⟨_, op_add_str, fun u v Hf H T Q hu hv w gv => ⟨x, y, dp_str hu, dp_str hv, of_decide_eq_true h1, giv_f w (.str _) gv⟩⟩
      | _ => cases h
    | list xs =>
      cases dy with
      | list ys =>
        obtain ⟨h1, h2⟩ := gd_inv (show gd (decide (xs.length + ys.length ≤ SZ)) _ = some r from h)
        cases h2
        refine ⟨fun x y H Q => ∃ a b xs ys, x = .ref a ∧ y = .ref b ∧ SqL X.K H a xs ∧ SqL X.K H b ys ∧ xs.length + ys.length ≤ sizeLine ∧ ∀ p, H p = none → Q (.ref p) (upd H p (.lst (xs ++ ys))), ?_, fun u v Hf H T Q hu hv w gv => ?_⟩
        · intro pins s σ H x y v u Q I rx ry h
          obtain ⟨a, b, as, bs, rfl, rfl, ha, hb, hz, q⟩ := h
          cases rx
          cases ry
          obtain ⟨is, ra, ⟨⟨cls, dd, data, sl⟩, n, ho, hc, _, hd⟩, _⟩ := I.list ha
          obtain ⟨js, rb, ⟨⟨cls2, dd2, data2, sl2⟩, n2, ho2, hc2, _, hd2⟩, _⟩ := I.list hb
          simp only at hc hd hc2 hd2
          subst hc hd hc2 hd2
          have l1 := ra.length
          have l2 := rb.length
          have e : is.toArray ++ js.toArray = (is ++ js).toArray := by simp
          refine concat_meets ⟨_, ho, rfl⟩ ⟨_, ho2, rfl⟩ noFill_list_add seq_list_add PySem.F.slot_list_add PySem.F.entry_list_add (PySem.F.args_list_add_2 _ _) (list_addW a b is.toArray js.toArray n n2 dd dd2 sl sl2 (by rw [List.size_toArray, List.size_toArray]; omega)) ⟨ho, ho2, ?_⟩
          rw [e]
          exact ⟨.ref _, _, I.lnew (t' := s.toks) (ra.append rb) (by rw [List.length_append]; omega), rfl, q _ I.fresh⟩
        · obtain ⟨a, as, rfl, ha, da⟩ := dp_list hu
          obtain ⟨b, bs, rfl, hb, db⟩ := dp_list hv
          refine ⟨a, b, as, bs, rfl, rfl, Same.seq w.sub ha, Same.seq w.sub hb, ?_, fun p hp => giv_L w hp (dpa_app da db) gv⟩
          rw [dpa_len da, dpa_len db]
          exact of_decide_eq_true h1
      | _ => cases h
    | tuple xs =>
      cases dy with
      | tuple ys =>
        obtain ⟨h1, h2⟩ := gd_inv (show gd (decide (xs.length + ys.length ≤ SZ)) _ = some r from h)
        cases h2
        refine ⟨_, op_catA, fun u v Hf H T Q hu hv w gv => ?_⟩
        obtain ⟨a, as, rfl, ha, da⟩ := dp_tuple hu
        obtain ⟨b, bs, rfl, hb, db⟩ := dp_tuple hv
        refine ⟨a, b, as, bs, rfl, rfl, sqt_same w.sub ha, sqt_same w.sub hb, ?_, fun e => ?_, fun _ e => ?_, fun _ _ p hp => giv_T w hp (dpa_app da db) gv⟩
        · rw [dpa_len da, dpa_len db]
          exact of_decide_eq_true h1
        · subst e
          cases da
          exact giv_f w hv gv
        · subst e
          cases db
          rw [List.append_nil] at gv
          exact giv_f w hu gv
      | _ => cases h
    | _ => cases h
  | sub =>
    cases dx with
    | int i =>
      cases dy with
      | int j => cases h; exact r2_int0 op_sub fun _ => .int _
      | _ => cases h
    | _ => cases h
  | mul =>
    cases dx with
    | int i =>
      cases dy with
      | int j =>
        obtain ⟨h1, h2⟩ := gd_inv (show gd (mulOk i j) _ = some r from h)
        cases h2
        exact r2_int op_mulA h1 fun _ => .int _
      | _ => cases h
    | list xs =>
      cases dy with
      | int j =>
        obtain ⟨h1, h2⟩ := gd_inv (show gd (decide (-(2 ^ 63) ≤ j ∧ j < 2 ^ 63 ∧ xs.length * j.toNat ≤ SZ)) _ = some r from h)
        cases h2
        obtain ⟨g1, g2, g3⟩ := of_decide_eq_true h1
        refine ⟨fun x y H Q => ∃ a k xs, x = .ref a ∧ y = .int k ∧ SqL X.K H a xs ∧ -(2 ^ 63) ≤ k ∧ k < 2 ^ 63 ∧ xs.length * k.toNat ≤ sizeLine ∧ ∀ p, H p = none → Q (.ref p) (upd H p (.lst (List.replicate k.toNat xs).flatten)), ?_, fun u v Hf H T Q hu hv w gv => ?_⟩
        · intro pins s σ H x y v u Q I rx ry h
          obtain ⟨a, k, as, rfl, rfl, ha, h1, h2, hz, q⟩ := h
          cases rx
          obtain ⟨t, rfl⟩ := ry
          obtain ⟨is, ra, ⟨⟨cls, dd, data, sl⟩, n, ho, hc, _, hd⟩, _⟩ := I.list ha
          simp only at hc hd
          subst hc hd
          have l1 := ra.length
          have hsz' : is.toArray.size * k.toNat ≤ 2 ^ 24 := by
            rw [List.size_toArray, ← l1]
            exact hz
          refine wpAny_binaryOp_repeat_ref (T := "list") (U := "int") (by decide) ⟨_, ho, rfl⟩ (fun s' => typeIs_int s' k t) noFill_list_mul PySem.F.fills_int_mul PySem.F.slot_int_rmul repeat_list PySem.F.slot_int_index.lookup
            (call_meets PySem.F.slot_int_rmul (typeIs_int s k t) PySem.F.entry_int_rmul (PySem.F.args_int_rmul_2 _ _) (lm_int_rmul_list_any k t a is.toArray n dd sl)
              ⟨ho, rfl, ⟨_, ho, rfl⟩, call_meets PySem.F.slot_list_mul ⟨_, ho, rfl⟩ PySem.F.entry_list_mul (PySem.F.args_list_mul_2 _ _)
                (lm_list_mul_any a is.toArray n dd sl k t (by simp [Builtin.List.listFitsIndex]; omega) (by omega) (by simp [Builtin.List.listTooLong, sizeLine]; rw [List.size_toArray] at hsz'; omega))
                ⟨ho, ?_⟩⟩)
          rw [listMul_foldl_if]
          exact ⟨.ref _, _, I.lnew (t' := s.toks) (ra.rep k.toNat) (by rw [PyProof.Rows.lm_len_rep_flat, Nat.mul_comm]; exact hz), rfl, q _ I.fresh⟩
        · obtain ⟨a, as, rfl, ha, da⟩ := dp_list hu
          refine ⟨a, j, as, rfl, dp_int hv, Same.seq w.sub ha, g1, g2, ?_, fun p hp => giv_L w hp (dpa_rep da j.toNat) gv⟩
          rw [dpa_len da]
          exact g3
      | _ => cases h
    | tuple xs =>
      cases dy with
      | int j =>
        obtain ⟨h1, h2⟩ := gd_inv (show gd (decide (-1000 ≤ j ∧ j ≤ 1000 ∧ xs.length ≤ 1000)) _ = some r from h)
        cases h2
        obtain ⟨g1, g2, g3⟩ := of_decide_eq_true h1
        refine ⟨_, op_mulT, fun u v Hf H T Q hu hv w gv => ?_⟩
        obtain ⟨a, as, rfl, ha, da⟩ := dp_tuple hu
        have dr := dpa_rep da j.toNat
        refine ⟨a, j, as, rfl, dp_int hv, sqt_same w.sub ha, g1, g2, by rw [dpa_len da]; exact g3, fun e => ?_, fun p hp => giv_T w hp dr gv⟩
        rw [e] at dr
        exact giv_f w (.tup ha dr) gv
      | _ => cases h
    | _ => cases h
  | fdiv =>
    cases dx with
    | int i =>
      cases dy with
      | int j =>
        obtain ⟨h1, h2⟩ := gd_inv (show gd (divOk j) _ = some r from h)
        cases h2
        have z := Bool.and_eq_true_iff.mp h1
        exact r2_int op_fdivA ⟨of_decide_eq_true z.1, of_decide_eq_true z.2⟩ fun _ => .int _
      | _ => cases h
    | _ => cases h
  | mod =>
    cases dx with
    | int i =>
      cases dy with
      | int j =>
        obtain ⟨h1, h2⟩ := gd_inv (show gd (decide (j ≠ 0)) _ = some r from h)
        cases h2
        exact r2_int op_modN (of_decide_eq_true h1) fun _ => .int _
      | _ => cases h
    | _ => cases h
  | pow =>
    cases dx with
    | int i =>
      cases dy with
      | int j =>
        obtain ⟨h1, h2⟩ := gd_inv (show gd (powOk i j) _ = some r from h)
        cases h2
        have z := Bool.and_eq_true_iff.mp h1
        have z1 := Bool.and_eq_true_iff.mp z.1
        exact r2_int op_pow ⟨of_decide_eq_true z1.1, of_decide_eq_true z1.2, of_decide_eq_true z.2⟩ fun _ => .int _
      | _ => cases h
    | _ => cases h
end
end PF

/-! PF, fourth part: comparisons, subscripts, slices, built-ins on plain data. -/
namespace PF
open PySem PySem.Spec PyProof.Rows L2
section
variable {X : Cx}
def copA : Cop → CmpOp
  | .eq => .Eq
  | .ne => .NotEq
  | .lt => .Lt
  | .le => .LtE
  | .gt => .Gt
  | .ge => .GtE
  | .inn => .In
  | .nin => .NotIn
theorem flat_of {K : PySem.W.Frag} {H : Hp} {v : V} {d : D} (h : Dp K H v d) (f : flatD d = true) : flatV v = true := by
  cases h <;> first | rfl | (exact absurd f Bool.false_ne_true)
theorem eq_flat {K : PySem.W.Frag} {H : Hp} {u v : V} {d e : D} (h : Dp K H u d) (k : Dp K H v e) (f : flatD d = true) (g : flatD e = true) : eqV u v = PyData.eqv d e := by
  cases h <;> cases k <;> first | rfl | (exact absurd f Bool.false_ne_true) | (exact absurd g Bool.false_ne_true)
theorem all_flat {K : PySem.W.Frag} {H : Hp} : ∀ {vs : List V} {ds : List D}, DpAll K H vs ds → ds.all flatD = true → vs.all flatV = true
  | _, _, .nil, _ => rfl
  | _, _, .cons a t, f => by
    rw [List.all_cons, Bool.and_eq_true_iff] at f ⊢
    exact ⟨flat_of a f.1, all_flat t f.2⟩
theorem any_flat {K : PySem.W.Frag} {H : Hp} {x : V} {d : D} (hx : Dp K H x d) (fx : flatD d = true) : ∀ {vs : List V} {ds : List D}, DpAll K H vs ds → ds.all flatD = true → inV x vs = inD d ds
  | _, _, .nil, _ => rfl
  | _, _, .cons a t, f => by
    rw [List.all_cons, Bool.and_eq_true_iff] at f
    show (eqV _ x || inV x _) = _
    rw [any_flat hx fx t f.2, eq_flat a hx f.1 fx]
    rfl
/-- in a tuple of any data -/
def rInT (K : PySem.W.Frag) (n : Bool) : R2 := fun x y H Q => ∃ d ds, L2.Dp K H x d ∧ L2.Dp K H y (.tuple ds) ∧ SeqAt.shaped d = true ∧ SeqAt.shaped (.tuple ds) = true ∧ Q (.bl (if n then !inD d ds else inD d ds)) H
theorem op_inT (hu : X.A.units + 65 < cLine) : OpR X (compareOp .In) (rInT X.K false) := fun pins s σ H x y v u Q I rx ry ⟨d, ds, hd, he, sd, se, q⟩ => by
  obtain ⟨as, r1⟩ := Dp.reads I d x v hd rx
  obtain ⟨bs, r2⟩ := Dp.reads I (.tuple ds) y u he ry
  exact SeqAt.in_tuple_reads r2 r1 (SeqAt.canLay_of_shaped se) (SeqAt.canLay_of_shaped sd) (room_in_shaped sd hu) ⟨.bl _, H, I, rfl, q⟩
theorem op_notInT (hu : X.A.units + 65 < cLine) : OpR X (compareOp .NotIn) (rInT X.K true) := fun pins s σ H x y v u Q I rx ry ⟨d, ds, hd, he, sd, se, q⟩ => by
  obtain ⟨as, r1⟩ := Dp.reads I d x v hd rx
  obtain ⟨bs, r2⟩ := Dp.reads I (.tuple ds) y u he ry
  exact SeqAt.notIn_tuple_reads r2 r1 (SeqAt.canLay_of_shaped se) (SeqAt.canLay_of_shaped sd) (room_in_shaped sd hu) ⟨.bl _, H, I, rfl, q⟩
theorem cmp_ok {op : Cop} {dx dy : D} {r : Bool} (hu : X.A.units + 65 < cLine) (h : cmpD op dx dy = some r) : R2ok X (compareOp (copA op)) dx dy (.fz (.bool r)) := by
  cases op with
  | eq =>
    obtain ⟨h1, h2⟩ := gd_inv (show gd (SeqAt.shaped dx && SeqAt.shaped dy) _ = some r from h)
    cases h2
    have z := Bool.and_eq_true_iff.mp h1
    exact ⟨_, op_eqD (by omega), fun u v Hf H T Q hu hv w gv => ⟨dx, dy, (dp_same w.sub hu).toK (nd_shaped z.1), (dp_same w.sub hv).toK (nd_shaped z.2), z.1, z.2, giv_f w (.bl _) gv⟩⟩
  | ne =>
    obtain ⟨h1, h2⟩ := gd_inv (show gd (SeqAt.shaped dx && SeqAt.shaped dy) _ = some r from h)
    cases h2
    have z := Bool.and_eq_true_iff.mp h1
    exact ⟨_, op_neD (by omega), fun u v Hf H T Q hu hv w gv => ⟨dx, dy, (dp_same w.sub hu).toK (nd_shaped z.1), (dp_same w.sub hv).toK (nd_shaped z.2), z.1, z.2, giv_f w (.bl _) gv⟩⟩
  | lt =>
    cases dx with
    | int i =>
      cases dy with
      | int j => cases h; exact r2_int0 op_lt fun _ => .bl _
      | _ => cases h
    | _ => cases h
  | le =>
    cases dx with
    | int i =>
      cases dy with
      | int j => cases h; exact r2_int0 op_le fun _ => .bl _
      | _ => cases h
    | _ => cases h
  | gt =>
    cases dx with
    | int i =>
      cases dy with
      | int j => cases h; exact r2_int0 op_gt fun _ => .bl _
      | _ => cases h
    | _ => cases h
  | ge =>
    cases dx with
    | int i =>
      cases dy with
      | int j => cases h; exact r2_int0 op_ge fun _ => .bl _
      | _ => cases h
    | _ => cases h
  | inn =>
    cases dy with
    | list ys =>
      obtain ⟨h1, h2⟩ := gd_inv (show gd (SeqAt.shaped dx && SeqAt.shaped (.list ys)) _ = some r from h)
      cases h2
      have z := Bool.and_eq_true_iff.mp h1
      exact ⟨_, op_inD hu, fun u v Hf H T Q hu hv w gv => ⟨dx, ys, (dp_same w.sub hu).toK (nd_shaped z.1), (dp_same w.sub hv).toK (nd_shaped z.2), z.1, z.2, giv_f w (.bl _) gv⟩⟩
    | tuple ys =>
      obtain ⟨h1, h2⟩ := gd_inv (show gd ((flatD dx && ys.all flatD) || (SeqAt.shaped dx && SeqAt.shaped (.tuple ys))) _ = some r from h)
      cases h2
      rcases Bool.or_eq_true_iff.mp h1 with h1 | h1
      · have z := Bool.and_eq_true_iff.mp h1
        refine ⟨_, op_in_seq, fun u v Hf H T Q hu hv w gv => ?_⟩
        obtain ⟨b, bs, rfl, hb, db⟩ := dp_tuple hv
        refine ⟨b, bs, rfl, .inr (sqt_same w.sub hb), flat_of hu z.1, all_flat db z.2, ?_⟩
        show Q (.bl (inV u bs)) H
        rw [any_flat hu z.1 db z.2]
        exact giv_f w (.bl _) gv
      · have z := Bool.and_eq_true_iff.mp h1
        exact ⟨_, op_inT hu, fun u v Hf H T Q hu hv w gv => ⟨dx, ys, (dp_same w.sub hu).toK (nd_shaped z.1), (dp_same w.sub hv).toK (nd_shaped z.2), z.1, z.2, giv_f w (.bl _) gv⟩⟩
    | _ => cases h
  | nin =>
    cases dy with
    | list ys =>
      obtain ⟨h1, h2⟩ := gd_inv (show gd (SeqAt.shaped dx && SeqAt.shaped (.list ys)) _ = some r from h)
      cases h2
      have z := Bool.and_eq_true_iff.mp h1
      exact ⟨_, op_notInD hu, fun u v Hf H T Q hu hv w gv => ⟨dx, ys, (dp_same w.sub hu).toK (nd_shaped z.1), (dp_same w.sub hv).toK (nd_shaped z.2), z.1, z.2, giv_f w (.bl _) gv⟩⟩
    | tuple ys =>
      obtain ⟨h1, h2⟩ := gd_inv (show gd ((flatD dx && ys.all flatD) || (SeqAt.shaped dx && SeqAt.shaped (.tuple ys))) _ = some r from h)
      cases h2
      rcases Bool.or_eq_true_iff.mp h1 with h1 | h1
      · have z := Bool.and_eq_true_iff.mp h1
        refine ⟨_, op_notIn_seq, fun u v Hf H T Q hu hv w gv => ?_⟩
        obtain ⟨b, bs, rfl, hb, db⟩ := dp_tuple hv
        refine ⟨b, bs, rfl, .inr (sqt_same w.sub hb), flat_of hu z.1, all_flat db z.2, ?_⟩
        show Q (.bl (!inV u bs)) H
        rw [any_flat hu z.1 db z.2]
        exact giv_f w (.bl _) gv
      · have z := Bool.and_eq_true_iff.mp h1
        exact ⟨_, op_notInT hu, fun u v Hf H T Q hu hv w gv => ⟨dx, ys, (dp_same w.sub hu).toK (nd_shaped z.1), (dp_same w.sub hv).toK (nd_shaped z.2), z.1, z.2, giv_f w (.bl _) gv⟩⟩
    | _ => cases h
/-! ### subscripts -/
theorem atD_eq {α : Type} (xs : List α) (i : Int) : atD xs i = atI xs i := by
  show b1 (L2.ixN xs.length i) (fun j => xs[j]?) = (L2.ixN xs.length i).bind fun j => xs[j]?
  cases L2.ixN xs.length i <;> rfl
theorem at_rel {α β : Type} {R : α → β → Prop} {xs : List α} {ys : List β} (hl : xs.length = ys.length) (hg : ∀ (j : Nat) (y : β), ys[j]? = some y → ∃ x, xs[j]? = some x ∧ R x y) {i : Int} {y : β} (h : atD ys i = some y) : ∃ x, atD xs i = some x ∧ R x y := by
  unfold atD at h ⊢
  rw [hl]
  obtain ⟨j, e1, e2⟩ := b1_inv h
  rw [e1]
  exact hg j y e2
def IxOk (X : Cx) (dx dy r : D) : Prop :=
  ∃ rr : R2, IxR X rr ∧ ∀ (u v : V) (Hf H : Hp) (T : List OA) (Q : VK), Dp X.K Hf u dx → Dp X.K Hf v dy → WR X.K Hf H T → Giv X.K Hf H T (.fz r) Q → rr u v H Q
theorem idx_ok {dx dy r : D} (h : idxD dx dy = some r) : IxOk X dx dy r := by
  cases dx with
  | list xs =>
    cases dy with
    | int i =>
      refine ⟨_, ix_list, fun u v Hf H T Q hu hv w gv => ?_⟩
      obtain ⟨a, as, rfl, ha, da⟩ := dp_list hu
      obtain ⟨x, e, hx⟩ := at_rel (R := fun v d => Dp X.K Hf v d) (dpa_len da) (fun j y e => dpa_get da e) h
      rw [atD_eq] at e
      exact ⟨a, as, i, x, rfl, dp_int hv, Same.seq w.sub ha, e, giv_f w hx gv⟩
    | _ => cases h
  | tuple xs =>
    cases dy with
    | int i =>
      refine ⟨_, ix_tup, fun u v Hf H T Q hu hv w gv => ?_⟩
      obtain ⟨a, as, rfl, ha, da⟩ := dp_tuple hu
      obtain ⟨x, e, hx⟩ := at_rel (R := fun v d => Dp X.K Hf v d) (dpa_len da) (fun j y e => dpa_get da e) h
      rw [atD_eq] at e
      exact ⟨a, as, i, x, rfl, dp_int hv, sqt_same w.sub ha, e, giv_f w hx gv⟩
    | _ => cases h
  | str x =>
    cases dy with
    | int i =>
      refine ⟨_, ix_str, fun u v Hf H T Q hu hv w gv => ?_⟩
      obtain ⟨h1, h2⟩ := gd_inv (show gd (decide (x.length ≤ SZ)) _ = some r from h)
      obtain ⟨c, e1, e2⟩ := b1_inv h2
      cases e2
      rw [atD_eq] at e1
      exact ⟨x, i, c, dp_str hu, dp_int hv, of_decide_eq_true h1, e1, giv_f w (.str _) gv⟩
    | _ => cases h
  | _ => cases dy <;> cases h
/-! ### slices -/
def SlOk (X : Cx) (dx : D) (lo hi : Option Int) (r : OV) : Prop :=
  ∃ rr : V → Option Int → Option Int → Hp → VK → Prop, SlR X rr ∧ ∀ (u : V) (Hf H : Hp) (T : List OA) (Q : VK), Dp X.K Hf u dx → WR X.K Hf H T → Giv X.K Hf H T r Q → rr u lo hi H Q
theorem dpa_cut {K : PySem.W.Frag} {H : Hp} {xs : List V} {ds : List D} (h : DpAll K H xs ds) (lo hi : Option Int) : DpAll K H (cutV xs lo hi) (cutD ds lo hi) := by
  unfold cutV cutD
  rw [dpa_len h]
  exact dpa_take _ (dpa_drop _ h)
theorem slc_ok {dx : D} {lo hi : Option Int} {r : OV} (h : slcD dx lo hi = some r) : SlOk X dx lo hi r := by
  cases dx with
  | list xs =>
    cases h
    refine ⟨_, sl_list, fun u Hf H T Q hu w gv => ?_⟩
    obtain ⟨a, as, rfl, ha, da⟩ := dp_list hu
    exact ⟨a, as, rfl, Same.seq w.sub ha, fun p hp => giv_L w hp (dpa_cut da lo hi) gv⟩
  | tuple xs =>
    cases h
    refine ⟨_, sl_tupA, fun u Hf H T Q hu w gv => ?_⟩
    obtain ⟨a, as, rfl, ha, da⟩ := dp_tuple hu
    refine ⟨a, as, rfl, sqt_same w.sub ha, fun e => ?_, fun _ p hp => giv_T w hp (dpa_cut da lo hi) gv⟩
    have l := dpa_len da
    have ec : cutD xs lo hi = xs := by
      unfold cutD
      rw [← l, e.1, e.2, List.drop_zero, Nat.sub_zero, l, List.take_length]
    rw [ec] at gv
    exact giv_f w hu gv
  | _ => cases h
/-! ### built-ins by name -/
def BltOk (X : Cx) (f : Value) (ds : List D) (r : OV) : Prop :=
  ∃ rr : List V → Hp → VK → Prop, CallR X f rr ∧ ∀ (us : List V) (Hf H : Hp) (T : List OA) (Q : VK), DpAll X.K Hf us ds → WR X.K Hf H T → Giv X.K Hf H T r Q → rr us H Q
def bltN : Blt → Str
  | .len => "len"
  | .abs => "abs"
  | .int => "int"
  | .min => "min"
  | .max => "max"
  | .list => "list"
  | .tuple => "tuple"
  | .all => "all"
  | .any => "any"
  | .sum => "sum"
  | .str => "str"
def bltV : Blt → Value
  | .len => .builtin "len"
  | .abs => .builtin "abs"
  | .int => .type "int"
  | .min => .builtin "min"
  | .max => .builtin "max"
  | .list => .type "list"
  | .tuple => .type "tuple"
  | .all => .builtin "all"
  | .any => .builtin "any"
  | .sum => .builtin "sum"
  | .str => .type "str"
theorem dpa_one {K : PySem.W.Frag} {H : Hp} {us : List V} {d : D} (h : DpAll K H us [d]) : ∃ u, us = [u] ∧ Dp K H u d := by
  cases h with
  | cons a t => cases t; exact ⟨_, rfl, a⟩
theorem dpa_two {K : PySem.W.Frag} {H : Hp} {us : List V} {d e : D} (h : DpAll K H us [d, e]) : ∃ u v, us = [u, v] ∧ Dp K H u d ∧ Dp K H v e := by
  cases h with
  | cons a t =>
    obtain ⟨v, rfl, b⟩ := dpa_one t
    exact ⟨_, v, rfl, a, b⟩
theorem minI_mem : ∀ (is : List Int) (i : Int), minI i is ∈ i :: is ∧ ∀ y ∈ i :: is, minI i is ≤ y
  | [], i => ⟨List.mem_cons_self, fun y hy => by
      have e : y = i := by simpa using hy
      rw [e]; exact Int.le_refl _⟩
  | j :: is, i => by
    show minI (if j < i then j else i) is ∈ _ ∧ ∀ y ∈ _, minI (if j < i then j else i) is ≤ y
    obtain ⟨h1, h2⟩ := minI_mem is (if j < i then j else i)
    have h3 := h2 _ List.mem_cons_self
    refine ⟨?_, fun y hy => ?_⟩
    · rcases List.mem_cons.mp h1 with e | e
      · rw [e]
        split
        · exact List.mem_cons_of_mem _ List.mem_cons_self
        · exact List.mem_cons_self
      · exact List.mem_cons_of_mem _ (List.mem_cons_of_mem _ e)
    · rcases List.mem_cons.mp hy with e | e
      · rw [e]
        exact Int.le_trans h3 (by split <;> omega)
      · rcases List.mem_cons.mp e with e | e
        · rw [e]
          exact Int.le_trans h3 (by split <;> omega)
        · exact h2 y (List.mem_cons_of_mem _ e)
theorem maxI_mem : ∀ (is : List Int) (i : Int), maxI i is ∈ i :: is ∧ ∀ y ∈ i :: is, y ≤ maxI i is
  | [], i => ⟨List.mem_cons_self, fun y hy => by
      have e : y = i := by simpa using hy
      rw [e]; exact Int.le_refl _⟩
  | j :: is, i => by
    show maxI (if j > i then j else i) is ∈ _ ∧ ∀ y ∈ _, y ≤ maxI (if j > i then j else i) is
    obtain ⟨h1, h2⟩ := maxI_mem is (if j > i then j else i)
    have h3 := h2 _ List.mem_cons_self
    refine ⟨?_, fun y hy => ?_⟩
    · rcases List.mem_cons.mp h1 with e | e
      · rw [e]
        split
        · exact List.mem_cons_of_mem _ List.mem_cons_self
        · exact List.mem_cons_self
      · exact List.mem_cons_of_mem _ (List.mem_cons_of_mem _ e)
    · rcases List.mem_cons.mp hy with e | e
      · rw [e]
        exact Int.le_trans (by split <;> omega) h3
      · rcases List.mem_cons.mp e with e | e
        · rw [e]
          exact Int.le_trans (by split <;> omega) h3
        · exact h2 y (List.mem_cons_of_mem _ e)
theorem dp_blt {b : Blt} {d : D} {r : OV} {rr : V → Hp → VK → Prop} (h : CallR X (bltV b) fun xs H Q => ∃ x, xs = [x] ∧ rr x H Q)
    (k : ∀ (u : V) (Hf H : Hp) (T : List OA) (Q : VK), Dp X.K Hf u d → WR X.K Hf H T → Giv X.K Hf H T r Q → rr u H Q) : BltOk X (bltV b) [d] r :=
  ⟨_, h, fun us Hf H T Q hu w gv => by
    obtain ⟨u, rfl, a⟩ := dpa_one hu
    exact ⟨u, rfl, k u Hf H T Q a w gv⟩⟩
theorem blt_ok {b : Blt} {ds : List D} {r : OV} (hc : X.calm = true) (h : bltD b ds = some r) : BltOk X (bltV b) ds r := by
  cases b with
  | len =>
    match ds, h with
    | [.list xs], h =>
      cases h
      refine ⟨_, call_len_seq, fun us Hf H T Q hu w gv => ?_⟩
      obtain ⟨u, rfl, a⟩ := dpa_one hu
      obtain ⟨p, as, rfl, ha, da⟩ := dp_list a
      refine ⟨p, as, rfl, .inl (Same.seq w.sub ha), ?_⟩
      rw [dpa_len da]
      exact giv_f w (.int _) gv
    | [.tuple xs], h =>
      cases h
      refine ⟨_, call_len_seq, fun us Hf H T Q hu w gv => ?_⟩
      obtain ⟨u, rfl, a⟩ := dpa_one hu
      obtain ⟨p, as, rfl, ha, da⟩ := dp_tuple a
      refine ⟨p, as, rfl, .inr (sqt_same w.sub ha), ?_⟩
      rw [dpa_len da]
      exact giv_f w (.int _) gv
    | [.str x], h =>
      obtain ⟨h1, h2⟩ := gd_inv (show gd (decide (x.length ≤ SZ)) _ = some r from h)
      cases h2
      refine ⟨_, call_len_str, fun us Hf H T Q hu w gv => ?_⟩
      obtain ⟨u, rfl, a⟩ := dpa_one hu
      exact ⟨x, by rw [dp_str a], of_decide_eq_true h1, giv_f w (.int _) gv⟩
  | abs =>
    match ds, h with
    | [.int i], h =>
      cases h
      refine ⟨_, call_abs, fun us Hf H T Q hu w gv => ?_⟩
      obtain ⟨u, rfl, a⟩ := dpa_one hu
      exact ⟨i, by rw [dp_int a], giv_f w (.int _) gv⟩
  | int =>
    match ds, h with
    | [.int i], h =>
      cases h
      refine ⟨_, call_int1, fun us Hf H T Q hu w gv => ?_⟩
      obtain ⟨u, rfl, a⟩ := dpa_one hu
      exact .inl ⟨i, by rw [dp_int a], giv_f w (.int _) gv⟩
    | [.bool i], h =>
      cases h
      refine ⟨_, call_int1, fun us Hf H T Q hu w gv => ?_⟩
      obtain ⟨u, rfl, a⟩ := dpa_one hu
      exact .inr ⟨i, by rw [dp_bool a], giv_f w (.int _) gv⟩
  | min =>
    match ds, h with
    | [.int i, .int j], h =>
      cases h
      refine ⟨_, call_min2 hc, fun us Hf H T Q hu w gv => ?_⟩
      obtain ⟨u, v, rfl, a, b⟩ := dpa_two hu
      exact ⟨i, j, by rw [dp_int a, dp_int b], giv_f w (.int _) gv⟩
    | [.list es], h =>
      obtain ⟨is, e1, e2⟩ := b1_inv (show b1 (intsD es) _ = some r from h)
      cases is with
      | nil => cases e2
      | cons i is =>
        cases e2
        refine ⟨_, cr_min hc, fun us Hf H T Q hu w gv => ?_⟩
        obtain ⟨u, rfl, a⟩ := dpa_one hu
        obtain ⟨p, as, rfl, ha, da⟩ := dp_list a
        rw [dpa_ints da e1] at ha
        refine ⟨p, i :: is, rfl, Same.seq w.sub ha, Nat.succ_pos _, fun m hm hy => ?_⟩
        obtain ⟨m1, m2⟩ := minI_mem is i
        have e : m = minI i is := Int.le_antisymm (hy _ m1) (m2 _ hm)
        rw [e]
        exact giv_f w (.int _) gv
  | max =>
    match ds, h with
    | [.int i, .int j], h =>
      cases h
      refine ⟨_, call_max2 hc, fun us Hf H T Q hu w gv => ?_⟩
      obtain ⟨u, v, rfl, a, b⟩ := dpa_two hu
      exact ⟨i, j, by rw [dp_int a, dp_int b], giv_f w (.int _) gv⟩
    | [.list es], h =>
      obtain ⟨is, e1, e2⟩ := b1_inv (show b1 (intsD es) _ = some r from h)
      cases is with
      | nil => cases e2
      | cons i is =>
        cases e2
        refine ⟨_, cr_max hc, fun us Hf H T Q hu w gv => ?_⟩
        obtain ⟨u, rfl, a⟩ := dpa_one hu
        obtain ⟨p, as, rfl, ha, da⟩ := dp_list a
        rw [dpa_ints da e1] at ha
        refine ⟨p, i :: is, rfl, Same.seq w.sub ha, Nat.succ_pos _, fun m hm hy => ?_⟩
        obtain ⟨m1, m2⟩ := maxI_mem is i
        have e : m = maxI i is := Int.le_antisymm (m2 _ hm) (hy _ m1)
        rw [e]
        exact giv_f w (.int _) gv
  | sum =>
    match ds, h with
    | [.list es], h =>
      obtain ⟨is, e1, e2⟩ := b1_inv (show b1 (intsD es) _ = some r from h)
      cases e2
      refine ⟨_, cr_sum hc, fun us Hf H T Q hu w gv => ?_⟩
      obtain ⟨u, rfl, a⟩ := dpa_one hu
      obtain ⟨p, as, rfl, ha, da⟩ := dp_list a
      rw [dpa_ints da e1] at ha
      exact ⟨p, is, rfl, Same.seq w.sub ha, giv_f w (.int _) gv⟩
  | list =>
    match ds, h with
    | [.list xs], h =>
      cases h
      refine ⟨_, call_list_of, fun us Hf H T Q hu w gv => ?_⟩
      obtain ⟨u, rfl, a⟩ := dpa_one hu
      obtain ⟨p, as, rfl, ha, da⟩ := dp_list a
      exact ⟨p, as, rfl, .inl (Same.seq w.sub ha), fun l hl => giv_L w hl da gv⟩
    | [.tuple xs], h =>
      cases h
      refine ⟨_, call_list_of, fun us Hf H T Q hu w gv => ?_⟩
      obtain ⟨u, rfl, a⟩ := dpa_one hu
      obtain ⟨p, as, rfl, ha, da⟩ := dp_tuple a
      exact ⟨p, as, rfl, .inr (sqt_same w.sub ha), fun l hl => giv_L w hl da gv⟩
  | tuple =>
    match ds, h with
    | [.list xs], h =>
      cases h
      refine ⟨_, call_tuple_of, fun us Hf H T Q hu w gv => ?_⟩
      obtain ⟨u, rfl, a⟩ := dpa_one hu
      obtain ⟨p, as, rfl, ha, da⟩ := dp_list a
      exact ⟨p, as, rfl, .inl ⟨Same.seq w.sub ha, fun l hl => giv_T w hl da gv⟩⟩
    | [.tuple xs], h =>
      cases h
      refine ⟨_, call_tuple_of, fun us Hf H T Q hu w gv => ?_⟩
      obtain ⟨u, rfl, a⟩ := dpa_one hu
      obtain ⟨p, as, rfl, ha, da⟩ := dp_tuple a
      exact ⟨p, as, rfl, .inr ⟨sqt_same w.sub ha, giv_f w a gv⟩⟩
  | all =>
    match ds, h with
    | [.list es], h =>
      obtain ⟨is, e1, e2⟩ := b1_inv (show b1 (boolsD es) _ = some r from h)
      cases e2
      refine ⟨_, cr_all hc, fun us Hf H T Q hu w gv => ?_⟩
      obtain ⟨u, rfl, a⟩ := dpa_one hu
      obtain ⟨p, as, rfl, ha, da⟩ := dp_list a
      rw [dpa_bools da e1] at ha
      exact ⟨p, is, rfl, Same.seq w.sub ha, giv_f w (.bl _) gv⟩
  | any =>
    match ds, h with
    | [.list es], h =>
      obtain ⟨is, e1, e2⟩ := b1_inv (show b1 (boolsD es) _ = some r from h)
      cases e2
      refine ⟨_, cr_any hc, fun us Hf H T Q hu w gv => ?_⟩
      obtain ⟨u, rfl, a⟩ := dpa_one hu
      obtain ⟨p, as, rfl, ha, da⟩ := dp_list a
      rw [dpa_bools da e1] at ha
      exact ⟨p, is, rfl, Same.seq w.sub ha, giv_f w (.bl _) gv⟩
  | str =>
    match ds, h with
    | [.int i], h =>
      obtain ⟨h1, h2⟩ := gd_inv (show gd (decide (i.natAbs.log2 < 1920)) _ = some r from h)
      cases h2
      refine ⟨_, call_str_int, fun us Hf H T Q hu w gv => ?_⟩
      obtain ⟨u, rfl, a⟩ := dpa_one hu
      exact ⟨i, by rw [dp_int a], of_decide_eq_true h1, giv_f w (.str _) gv⟩
    | [.str z], h =>
      cases h
      refine ⟨_, SkE.call_str_str, fun us Hf H T Q hu w gv => ?_⟩
      obtain ⟨u, rfl, a⟩ := dpa_one hu
      exact ⟨z, by rw [dp_str a], giv_f w (.str _) gv⟩
/-! ### isinstance -/
def tyN : D → String
  | .none => "NoneType"
  | .bool _ => "bool"
  | .int _ => "int"
  | .str _ => "str"
  | .list _ => "list"
  | .tuple _ => "tuple"
  | .dict _ => "dict"
def tyT : Ty → String
  | .int => "int"
  | .bool => "bool"
  | .str => "str"
  | .list => "list"
  | .tuple => "tuple"
theorem tyx_of {K : PySem.W.Frag} {H : Hp} {v : V} {d : D} (h : Dp K H v d) (hx : ∀ x, d ≠ .dict x) : TyX K H v (.type (tyN d)) := by
  cases h with
  | fn x => exact absurd rfl (hx _)
  | non => exact .base .non
  | bl b => exact .base (.bl b)
  | int i => exact .base (.int i)
  | str x => exact .base (.str x)
  | lst h a =>
    rcases h with (h | ⟨o, h⟩) | ⟨o, its, n, h1, h2, _⟩
    · exact .base (.lst h)
    · exact .base (.frz h)
    · exact .kList h1 h2
  | tup h a =>
    rcases h with (h | ⟨o, h⟩) | ⟨o, its, n, h1, h2, _⟩
    · exact .base (.tup h)
    · exact .fTuple h
    · exact .kTuple h1 h2
theorem kit_is {K : PySem.W.Frag} (t : Ty) (d : D) (h : ∀ x, d ≠ .dict x) : PySem.W.kitOne K (.type (tyN d)) (.type (tyT t)) = some (isTy t d) := by
  have h1 : ∀ t, kitB "list" (tyT t) = some (decide (t = .list)) := by intro t; cases t <;> decide +kernel
  have h2 : ∀ t, kitB "tuple" (tyT t) = some (decide (t = .tuple)) := by intro t; cases t <;> decide +kernel
  have h3 : ∀ t, kitB "str" (tyT t) = some (decide (t = .str)) := by intro t; cases t <;> decide +kernel
  have h4 : ∀ t, kitB "int" (tyT t) = some (decide (t = .int)) := by intro t; cases t <;> decide +kernel
  have h5 : ∀ t, kitB "bool" (tyT t) = some (decide (t = .int) || decide (t = .bool)) := by intro t; cases t <;> decide +kernel
  have h6 : ∀ t, kitB "NoneType" (tyT t) = some false := by intro t; cases t <;> decide +kernel
  cases d with
  | dict x => exact absurd rfl (h x)
  | none => exact kit_ty ((h6 t).trans (by cases t <;> rfl))
  | bool b => exact kit_ty ((h5 t).trans (by cases t <;> rfl))
  | int b => exact kit_ty ((h4 t).trans (by cases t <;> rfl))
  | str b => exact kit_ty ((h3 t).trans (by cases t <;> rfl))
  | list b => exact kit_ty ((h1 t).trans (by cases t <;> rfl))
  | tuple b => exact kit_ty ((h2 t).trans (by cases t <;> rfl))
theorem kit_any {K : PySem.W.Frag} (d : D) (h : ∀ x, d ≠ .dict x) : ∀ ts : List Ty, PySem.W.kitAny K (.type (tyN d)) (ts.map fun t => .type (tyT t)) = some (ts.any fun t => isTy t d)
  | [] => rfl
  | t :: ts => kitAny_cons (kit_is t d h) (fun e => by rw [List.any_cons, e, Bool.false_or]; exact kit_any d h ts) (fun e => by rw [List.any_cons, e]; rfl)
end
end PF

/-! PF: promises of defs where nothing of the library's own shows an object (so that repr can be called). -/
namespace PF
open PySem PySem.Spec PyProof.Rows L2
/-- a def's promise, asked for only where no repr is under way -/
structure FnOkG (P : Program) (w : World) (K : PySem.W.Frag) (mg : Str → Option Value) (base : Heap) (k : Nat) (f : Addr) (fd : FuncData) (ps : List Str) (sp : Sp) : Prop where
  len : ∀ vs H Q E, sp vs H Q E → vs.length = ps.length
  run : ∀ (A : Around) (ou : List PySem.Env) (s : Shared) (H : Hp) (as : Args) (us : List Value) (vs : List V) (Q : VK) (E : XK), A.guards = some [] → Room k A → Env0 P w K mg base A ou s H →
    BindsTo s fd as (ps.zip us) → Vals vs us → sp vs H Q E → codeAny (model P w) A (.call (.ref f) as) (CR L2.CX0 ou P w H s Q E) s
section
variable {X : Cx} {k : Nat} {f : Addr} {fd : FuncData} {ps : List Str} {sp : Sp}
theorem FnOkG.at_ {pins : List (Addr × Obj)} {σ : L2.St} {H : Hp} {s : Shared} {Q : VK} {as : Args} {us : List Value} {vs : List V} (F : FnOkG X.prog X.w X.K X.mg X.base k f fd ps sp) (gu : X.A.guards = some []) (rm : Room k X.A) (I : Inv X pins σ H s)
    (b : BindsTo s fd as (ps.zip us)) (r : Vals vs us) (q : sp vs H Q L2.E0) : codeAny (model X.prog X.w) X.A (.call (.ref f) as) (fun r s' => ∃ u, r = .ok (.ret u) ∧ EP X pins σ Q u s') s := by
  refine codeAny_mono (F.run X.A X.stack s H as us vs Q L2.E0 gu rm I.env0 b r q) fun res s' h => ?_
  cases res with
  | error e => exact False.elim h
  | ok fl =>
    cases fl with
    | ret u => exact ⟨u, rfl, I.after h⟩
    | next => exact False.elim h
    | brk => exact False.elim h
    | cont => exact False.elim h
theorem FnOkG.pos {pins : List (Addr × Obj)} {σ : L2.St} {H : Hp} {s : Shared} {Q : VK} {us : List Value} {vs : List V} (F : FnOkG X.prog X.w X.K X.mg X.base k f fd ps sp) (gu : X.A.guards = some []) (rm : Room k X.A) (hb : Binds X.K fd ps []) (I : Inv X pins σ H s)
    (r : Vals vs us) (q : sp vs H Q L2.E0) : wpAny (model X.prog X.w) X.A (call (.ref f) us) (EP X pins σ Q) X.xe s := by
  have l : us.length = ps.length := by
    rw [← r.length]
    exact F.len _ _ _ _ q
  have b := hb s us I.kIn (by rw [List.append_nil]; exact l)
  rw [List.append_nil] at b
  exact wpAny_call (codeAny_mono (F.at_ gu rm I b r q) fun res s' ⟨u, e, h⟩ => by subst e; exact h)
variable {i : Nat} {x : Str} {p pos : Pos} {e : Expr} {es : List Expr} {t : TA}
def tPos (sp : Sp) (t : TA) : TE := fun σ H Q => t σ H fun vs H1 => sp vs H1 Q L2.E0
/-- f(..) by its name -/
theorem pe_posG (F : FnOkG X.prog X.w X.K X.mg X.base k f fd ps sp) (gu : X.A.guards = some []) (rm : Room k X.A) (hg : Gl X x) (hm : X.mg x = some (.ref f)) (hk : PySem.W.keepIn X.K (.ref f) = true) (hb : Binds X.K fd ps []) (ha : PA X (e :: es) t)
    (nd : (x == ("__debug__" : Str)) = false) (st : starEach (e :: es) X.env = (false, eval e X.env) :: starEach es X.env) (sa : (backTo pos (starEach es X.env)).any (·.1) = false) : PE X (.Call (.Name x p) (e :: es) [] pos) (tPos sp t) := by
  constructor
  intro pins s σ H Q I h
  have args := fun pos => ha.run pos pins s σ H _ I h
  refine wpAny_Call_Name_kw (ld_glob I hg hm ?_ nd)
  exact PySem.W.callWith_K (h₀ := X.base) I.ok.mod.kin hk (thn (args pos) fun us s1 ⟨vs, H1, I1, r, q⟩ => ⟨I1.kIn, F.pos gu rm hb I1 r q⟩) st sa
/-- .. held in a slot -/
theorem pe_slotG (F : FnOkG X.prog X.w X.K X.mg X.base k f fd ps sp) (gu : X.A.guards = some []) (rm : Room k X.A) (hN : X.N[i]? = some x) (hv : Vis X.env.scope x) (hk : PySem.W.keepIn X.K (.ref f) = true) (hb : Binds X.K fd ps []) (ha : PA X (e :: es) t)
    (nd : (x == ("__debug__" : Str)) = false) (nc : (x == ("__classdict__" : Str)) = false) (st : starEach (e :: es) X.env = (false, eval e X.env) :: starEach es X.env) (sa : (backTo pos (starEach es X.env)).any (·.1) = false) :
    PE X (.Call (.Name x p) (e :: es) [] pos) fun σ H Q => σ[i]? = some (some (.ref f)) ∧ tPos sp t σ H Q := by
  constructor
  rintro pins s σ H Q I ⟨at_, h⟩
  have nm := (pe_var (pos := p) hN hv nd nc).run pins s σ H (fun v G => v = .ref f ∧ G = H) I ⟨.ref f, at_, rfl, rfl⟩
  refine wpAny_Call_Name_kw (thn nm fun u s1 ⟨v, G, J, rv, ev, eG⟩ => ?_)
  subst ev eG
  cases rv
  exact PySem.W.callWith_K (h₀ := X.base) J.ok.mod.kin hk (thn (ha.run pos pins s1 σ _ _ J h) fun us s2 ⟨vs, H2, I2, r, q⟩ => ⟨I2.kIn, F.pos gu rm hb I2 r q⟩) st sa
end
section
variable {P : Program} {w : World} {K : PySem.W.Frag} {mg : Str → Option Value} {base : Heap} {k : Nat} {f : Addr} {sp : Sp}
/-- a def's promise by its body -/
theorem FnOkG.of {N ps : List Str} {x : Str} {pa : Arguments} {bd : List Stmt} {sc : Scope} {dvs : List V} {kws : List (Str × V)} {fd : FuncData} (F : FunD K x x pa bd sc dvs kws f fd) (S : FnScope N ps sc) (len : ∀ vs H Q E, sp vs H Q E → vs.length = ps.length)
    (body : ∀ (cd : Value) (A : Around) (ou : List PySem.Env) (s : Shared) (H : Hp) (vs : List V) (Q : VK) (E : XK), A.guards = some [] → Room k (A.deeper (envOfC x sc s.heap.objs.size f cd)) → sp vs H Q E →
      ∃ t, PSs (cxOf L2.CX0 P w K mg base N x sc f cd A ou s H E) bd t ∧ t { nx := fun _ H' => Q .non H', rt := Q } (L2.start N vs) H) : FnOkG P w K mg base (k + 1) f fd ps sp := by
  obtain ⟨oc, od, dV, kV, doc, pm, an, cdv, ct, osl, efd, lk, hcd, _, _⟩ := F.ex
  subst efd
  refine ⟨len, fun A ou s H as us vs Q E gu rm e0 hb r q => ?_⟩
  have nvs := len _ _ _ _ q
  have KX : K.In s.heap := e0.mod.kin.keeps fun b o z => (e0.bs b o z).1
  have lim : s.heap.NoLimit := e0.mod.nolimit.keeps fun b o z => (e0.bs b o z).1
  have kinds : ∀ y ∈ ps.zip us, sc.names.lookup y.1 = some .local ∨ (sc.names.lookup y.1 = some .cell ∧ ((cellsFrom (s.heap.objs.size + 1) sc.names []).lookup y.1).isSome = true) := by
    rintro ⟨y, v⟩ hy
    rcases S.par y (List.of_mem_zip hy).1 with z | z
    · exact Or.inl z
    · exact Or.inr ⟨z, PySem.W.cellsFrom_some _ _ _ (Or.inl z)⟩
  refine codeAny_call_function rm.depth (KX _ _ lk) rfl S.co S.gen rfl (PySem.W.codeRec_of KX hcd) (hb _ _ _ _ ?_)
  refine wpAny_newFunctionEnv_cells S.kind kinds fun env he s1 x1 => ?_
  subst he
  refine ⟨lim.keeps x1.toInCall.keep, codeAny_func ?_⟩
  obtain ⟨t, ht, hq⟩ := body cdv A ou s H vs Q E gu (rm.deeper _) q
  have I := inv_start (CX := L2.CX0) (cd := cdv) (E := E) (K := K) (mg := mg) S rm.hd e0 nvs r x1
  refine wpAny_mono (ht.run [] s1 (L2.start N vs) H _ I hq) (fun fl s' hs => ?_) (fun e s' hs => hs)
  cases fl with
  | brk => obtain ⟨_, _, _, z⟩ := hs; exact z.elim
  | cont => obtain ⟨_, _, _, z⟩ := hs; exact z.elim
  | next =>
    obtain ⟨σ1, H1, J, z⟩ := hs
    exact ⟨V.non, H1, J.os, J.bare, J.base, J.hok, rfl, z⟩
  | ret u =>
    obtain ⟨v, σ1, H1, J, rv, z⟩ := hs
    exact ⟨v, H1, J.os, J.bare, J.base, J.hok, rv, z⟩
/-- the law's call, at the heap behind the top -/
theorem law_callG {mb : Str → Option Value} {a : Addr} {fd : FuncData} {x : Str} {s : Shared} {vs : List Value} {ns : List Int} (KX : K.In s.heap) (hns : s.heap.Ns mainGlobals mg) (hb : s.heap.Ns builtinsNs mb) (hbb : ∀ x : Str, x ≠ "__name__" → mb x = bootBuiltins x)
    (hlim : s.heap.NoLimit) (hg : s.gens = #[]) (ha : s.heap.get? a = some { cls := .type "list", data := .seq vs.toArray }) (hi : IntsAre vs ns) (hl : ns.length ≤ sizeLine) (rm : Room k callerA)
    (F : ∀ base : Heap, K.In base → base.Ns mainGlobals mg → FnOkG P w K mg base k f fd [x] sp) (hbind : ∀ (s : Shared) (u : Value), BindsTo s fd ⟨[u], []⟩ [(x, u)])
    (hsp : ∀ H : Hp, L2.Only H → SqL K H a (ns.map V.int) → sp [.ref a] H (fun v _ => v = .bl true) fun _ _ _ => False) :
    codeAny (model P w) callerA (.call (.ref f) ⟨[.ref a], []⟩) (fun r s' => r = .ok (.ret (.bool true)) ∧ OldK s.heap s'.heap ∧ s'.os = s.os ∧ AllBare s'.gens) s := by
  have rv := vals_ints hi
  have lenV := hi.length
  have core : ∀ H : Hp, L2.Only H → SqL K H a (ns.map V.int) → HOk P w H s.heap → (∀ b, H b ≠ none → b = a) → (H a ≠ none → K.lookup a = none) →
      codeAny (model P w) callerA (.call (.ref f) ⟨[.ref a], []⟩) (fun r s' => r = .ok (.ret (.bool true)) ∧ OldK s.heap s'.heap ∧ s'.os = s.os ∧ AllBare s'.gens) s := by
    intro H hO hS hok hA hK
    have none_of : ∀ {b : Addr}, (b = a → False) → H b = none := fun {b} h => by
      cases z : H b with
      | none => rfl
      | some u => exact (h (hA b (by rw [z]; exact Option.some_ne_none u))).elim
    have isA : ∀ {b : Addr} {o : Obj} {es : Array DictEntry} {ep : Nat}, s.heap.get? b = some o → o.data = .dict es ep → H b = none := fun {b o es ep} g d => none_of fun z => by
      subst z
      rw [ha] at g
      cases g
      have d2 : Data.seq vs.toArray _ = Data.dict es ep := d
      cases d2
    have nsK : ∀ {b : Addr} {m : Str → Option Value}, s.heap.Ns b m → (hidT s.heap H).Ns b m := fun {b m} ⟨o, es, ep, g, d, r⟩ => ⟨o, es, ep, hidT_get g (isA g d), d, r⟩
    have hKb : K.In (hidT s.heap H) := fun b o g => by
      refine hidT_get (KX b o g) ?_
      cases z : H b with
      | none => rfl
      | some u =>
        have eb := hA b (by rw [z]; exact Option.some_ne_none u)
        subst eb
        rw [hK (by rw [z]; exact Option.some_ne_none u)] at g
        cases g
    obtain ⟨mc, l1, l2⟩ := hlim
    have hM : Mod K mg (hidT s.heap H) := ⟨hKb, nsK hns, ⟨mb, nsK hb, hbb⟩, ⟨mc, nsK l1, l2⟩⟩
    have e0 : Env0 P w K mg (hidT s.heap H) callerA [] s H := ⟨rfl, hM, fun b o g => of_hidT g, Nat.le_of_eq (hidT_size _ _), trivial, fun b z => (List.not_mem_nil z).elim, hok, .of_eq hg⟩
    have run := (F _ hKb (nsK hns)).run callerA [] s H ⟨[.ref a], []⟩ [.ref a] [.ref a] _ _ rfl rm e0 (hbind s (.ref a)) (.cons rfl .nil) (hsp H hO hS)
    refine codeAny_mono run fun res s' h => ?_
    cases res with
    | error e => exact False.elim h
    | ok fl =>
      cases fl with
      | next => exact False.elim h
      | brk => exact False.elim h
      | cont => exact False.elim h
      | ret u =>
        obtain ⟨v, H', os, bare, un, hok2, r2, q⟩ := h
        have q : v = .bl true := q
        subst q
        have r2 : u = Value.bool true := r2
        subst r2
        refine ⟨rfl, OldK.of_keep fun b o g => ?_, os, bare⟩
        cases z : H b with
        | none => exact un.keep b o g z (fun y => (List.not_mem_nil y).elim) (by simp)
        | some y =>
          rcases hO b with z2 | ⟨ob, xs, z2⟩
          · rw [z] at z2; cases z2
          · obtain ⟨g1, _⟩ := hok b _ z2
            obtain ⟨g2, _⟩ := hok2 b _ (un.frzs b ob _ z2)
            rw [g] at g1
            cases g1
            exact g2
  cases hk : K.lookup a with
  | some o =>
    have g := KX a o hk
    rw [ha] at g
    cases g
    refine core (fun _ => none) (fun _ => .inl rfl) (.inr ⟨_, vs.toArray, _, hk, rfl, rfl, rfl, ?_, by simpa using rv⟩) (fun b u z => nomatch z) (fun b z => (z rfl).elim) (fun z => (z rfl).elim)
    rw [List.size_toArray, lenV]
    exact hl
  | none =>
    let one : Hp := fun b => if b = a then some (.frz { cls := .type "list", data := .seq vs.toArray } (.lst (ns.map V.int))) else none
    have at_a : one a = some (.frz { cls := .type "list", data := .seq vs.toArray } (.lst (ns.map V.int))) := if_pos rfl
    have off : ∀ {b : Addr}, ¬ b = a → one b = none := fun h => if_neg h
    refine core one (fun b => ?_) (.inl (.inr ⟨_, at_a⟩)) (fun b u z => ?_) (fun b z => ?_) fun _ => hk
    · by_cases h : b = a
      · subst h; exact .inr ⟨_, _, at_a⟩
      · exact .inl (off h)
    · by_cases h : b = a
      · subst h
        rw [at_a] at z
        cases z
        exact ⟨ha, by rw [List.length_map]; exact hl, vs, _, rv, ha⟩
      · rw [off h] at z
        cases z
    · by_cases h : b = a
      · exact h
      · exact (z (off h)).elim
end
/-- a law: the written part, the function object, the promise over every base -/
theorem walk_ofG {l : PySem.W.OpenLaw} {n k : Nat} {q : Program} {loose : List Str} {XP : (Str → Option Value) → Heap → Prop} {YP : World → Heap → Prop} {d : DefRec} {x : Str} (hn : l.most = some n) (hn2 : n ≤ sizeLine) (hdf : d.params.defaults = []) (rm : Room k callerA)
    (F : ∀ (w : World) (mg : Str → Option Value) (fa : Addr) (h : Heap), YP w h → h.Ns mainGlobals mg → mg d.name = some (.ref fa) →
      ∃ (K : PySem.W.Frag) (fd : FuncData) (sp : Sp), K.In h ∧ (∀ (s : Shared) (u : Value), BindsTo s fd ⟨[u], []⟩ [(x, u)]) ∧
        (∀ (H : Hp) (a : Addr) (ns : List Int), ns.length ≤ n → L2.Only H → SqL K H a (ns.map V.int) → sp [.ref a] H (fun v _ => v = .bl true) fun _ _ _ => False) ∧ ∀ base : Heap, K.In base → base.Ns mainGlobals mg → FnOkG l.prog w K mg base k fa fd [x] sp) :
    PySem.W.WalkO q loose XP YP l.row.toRowW d [] (fun f vs => PySem.call f vs) :=
  Att.attach_call hn hdf fun w s₀ s₁ mg mb fa o pm cd doc a vs ns G Y _ _ _ hmg hobj hints hlen hg => by
    obtain ⟨K, fd, sp, KX, hb, hsp, hF⟩ := F w mg fa _ Y G.T.g hmg
    exact law_callG KX G.T.g G.T.b G.T.builtins G.T.nolimit hg hobj hints (Nat.le_trans hlen hn2) rm hF hb fun H hO hS => hsp H a ns hlen hO hS
end PF

/-! PF, fifth part: what it means that an expression of the text is one of the small language; the plain constructs. -/
namespace PF
open PySem PySem.Spec PyProof.Rows L2
/-! ### the weakest readings -/
def WE (X : Cx) (e : Expr) : TE := fun σ H Q => ∀ (pins : List (Addr × Obj)) (s : Shared), Inv X pins σ H s → wpAny (model X.prog X.w) X.A (eval e X.env) (EP X pins σ Q) X.xe s
def WT (X : Cx) (e : Expr) : TT := fun σ H Q => ∀ (pins : List (Addr × Obj)) (s : Shared), Inv X pins σ H s → wpAny (model X.prog X.w) X.A (isTrue e X.env (eval e X.env)) (TP X pins σ Q) X.xe s
def WW (X : Cx) (e : Expr) : TT := fun σ H Q => ∀ (whole : Sem Value) (pins : List (Addr × Obj)) (s : Shared), Inv X pins σ H s → wpAny (model X.prog X.w) X.A (isTrue e X.env whole) (TP X pins σ Q) X.xe s
def WA (X : Cx) (es : List Expr) : TA := fun σ H Q => ∀ (pos : Pos) (pins : List (Addr × Obj)) (s : Shared), Inv X pins σ H s → wpAny (model X.prog X.w) X.A (spliced (backTo pos (starEach es X.env))) (AP X pins σ Q) X.xe s
def WK (X : Cx) (ks : List Keyword) : TA := fun σ H Q => ∀ (pos : Pos) (pins : List (Addr × Obj)) (s : Shared), Inv X pins σ H s → wpAny (model X.prog X.w) X.A (evalAll ((backToKw pos (keywordEach ks X.env)).map (·.2))) (AP X pins σ Q) X.xe s
def WO (X : Cx) (e : Option Expr) : TO := fun σ H Q => ∀ (pins : List (Addr × Obj)) (s : Shared), Inv X pins σ H s → wpAny (model X.prog X.w) X.A (evalPart e X.env) (fun u s' => ∃ o H', Inv X pins σ H' s' ∧ IsPart u o ∧ Q o H') X.xe s
def WS (X : Cx) (st : Stmt) : TS := fun D σ H => ∀ (pins : List (Addr × Obj)) (s : Shared), Inv X pins σ H s → wpAny (model X.prog X.w) X.A (exec st X.env) (SP X pins D) X.xe s
def WSs (X : Cx) (st : List Stmt) : TS := fun D σ H => ∀ (pins : List (Addr × Obj)) (s : Shared), Inv X pins σ H s → wpAny (model X.prog X.w) X.A (execs st X.env) (SP X pins D) X.xe s
section
variable {X : Cx} {e : Expr} {σ : L2.St} {H : Hp}
theorem we_pe : PE X e (WE X e) := ⟨fun pins s σ H Q I h => h pins s I⟩
theorem wt_pt : PT X e (WT X e) := ⟨fun pins s σ H Q I h => h pins s I⟩
theorem ww_pw : PW X e (WW X e) := ⟨fun wh pins s σ H Q I h => h wh pins s I⟩
theorem wa_pa {es : List Expr} : PA X es (WA X es) := ⟨fun pos pins s σ H Q I h => h pos pins s I⟩
theorem wk_pk {ks : List Keyword} : PK X ks (WK X ks) := ⟨fun pos pins s σ H Q I h => h pos pins s I⟩
theorem wo_po {e : Option Expr} : PO X e (WO X e) := ⟨fun pins s σ H Q I h => h pins s I⟩
theorem ws_ps {st : Stmt} : PS X st (WS X st) := ⟨fun pins s σ H D I h => h pins s I⟩
theorem wss_pss {st : List Stmt} : PSs X st (WSs X st) := ⟨fun pins s σ H D I h => h pins s I⟩
theorem pe_we {t : TE} {Q : VK} (h : PE X e t) (q : t σ H Q) : WE X e σ H Q := fun pins s I => h.run pins s σ H Q I q
theorem pt_wt {t : TT} {Q : Bool → Hp → Prop} (h : PT X e t) (q : t σ H Q) : WT X e σ H Q := fun pins s I => h.run pins s σ H Q I q
theorem pw_ww {t : TT} {Q : Bool → Hp → Prop} (h : PW X e t) (q : t σ H Q) : WW X e σ H Q := fun wh pins s I => h.run wh pins s σ H Q I q
theorem ww_wt {Q : Bool → Hp → Prop} (h : WW X e σ H Q) : WT X e σ H Q := fun pins s I => h _ pins s I
theorem pa_wa {es : List Expr} {t : TA} {Q : List V → Hp → Prop} (h : PA X es t) (q : t σ H Q) : WA X es σ H Q := fun pos pins s I => h.run pos pins s σ H Q I q
theorem pk_wk {ks : List Keyword} {t : TA} {Q : List V → Hp → Prop} (h : PK X ks t) (q : t σ H Q) : WK X ks σ H Q := fun pos pins s I => h.run pos pins s σ H Q I q
theorem po_wo {e : Option Expr} {t : TO} {Q : Option Int → Hp → Prop} (h : PO X e t) (q : t σ H Q) : WO X e σ H Q := fun pins s I => h.run pins s σ H Q I q
theorem ps_ws {st : Stmt} {t : TS} {D : Ends} (h : PS X st t) (q : t D σ H) : WS X st D σ H := fun pins s I => h.run pins s σ H D I q
theorem pss_wss {st : List Stmt} {t : TS} {D : Ends} (h : PSs X st t) (q : t D σ H) : WSs X st D σ H := fun pins s I => h.run pins s σ H D I q
end
/-! ### the text's defs -/
structure Prg where
  names : List Str
  pars : List (List Str)
  fns : List Fn
  /-- calls by keywords: the def, the keywords as written, for each parameter the place of its keyword -/
  kws : List (Nat × List Str × List Nat)
  cs : List (Str × Cst)
def ioV (io : List Nat) (vs : List V) : List V := io.filterMap fun i => vs[i]?
/-- a def's promise: what the evaluator says -/
def spF (K : PySem.W.Frag) (ev : List OV → Option (OV × List OV)) (f : Fn) : Sp := fun vs H Q _ =>
  ∃ (Hf : Hp) (as τ : List OA) (r : OV) (outs : List OV), as.map OA.v = vs ∧ vs.length = f.np ∧ WR K Hf H (as ++ τ) ∧ ev (OA.os as) = some (r, outs) ∧
    ∀ (H' Hf' : Hp) (x : OA) (bs : List OA), Same Hf Hf' → x.o = r → OA.os bs = outs → bs.map OA.v = ioV f.io vs → WR K Hf' H' (x :: (bs ++ τ)) → Q x.v H'
def blts : List Str := ["len", "abs", "int", "min", "max", "list", "tuple", "all", "any", "sum", "isinstance", "range", "enumerate", "zip", "bool", "str", "sorted", "set", "repr"]
structure Pr (P : Program) (w : World) (K : PySem.W.Frag) (mg : Str → Option Value) (base : Heap) (G : Prg) (C : Ctx) (n : Nat) : Prop where
  fn : ∀ (g : Nat) (nm : Str) (ps : List Str) (f : Fn), G.names[g]? = some nm → G.pars[g]? = some ps → G.fns[g]? = some f → ∃ fa fd, mg nm = some (.ref fa) ∧ PySem.W.keepIn K (.ref fa) = true ∧ Binds K fd ps [] ∧
    FnOkG P w K mg base n fa fd ps (spF K (C.call g) f) ∧ ∀ ks perm, (g, ks, perm) ∈ G.kws → ∀ (s : Shared) (ws : List Value), (perm.filterMap fun i => ws[i]?).length = ps.length → BindsTo s fd ⟨[], ks.zip ws⟩ (ps.zip (perm.filterMap fun i => ws[i]?))
  free : ∀ x ∈ blts, mg x = none
  cst : ∀ x c, (x, c) ∈ G.cs → ∃ u v, mg x = some u ∧ RelV v u ∧ ∀ H, Dp K H v c.d
  ln : ∀ (g : Nat) (f : Fn) (os : List OV) (r : OV × List OV), G.fns[g]? = some f → C.call g os = some r → os.length = f.np
  ga : ∀ (g : Nat) (nm : Str), G.names[g]? = some nm → mg nm = some (.ref (He.ga K nm))
/-- where one stands -/
structure Cn (X : Cx) (G : Prg) (C : Ctx) (n : Nat) (sc : Scope) (N : List Str) : Prop where
  hN : X.N = N
  nd : N.Nodup
  calm : X.calm = true
  xe : X.xe = fun _ _ => False
  lk : ∀ x k, sc.names.lookup x = some k → k ≠ .free → X.env.scope.names.lookup x = some k
  lf : ∀ x, sc.names.lookup x = some .free → X.env.scope.names.lookup x = some .cell ∨ X.env.scope.names.lookup x = some .free
  fn : ∀ x, sc.names.lookup x = some .cell → X.fn x = true
  room : Room n X.A
  gu : X.A.guards = some []
  pr : Pr X.prog X.w X.K X.mg X.base G C n
theorem Cn.units {X : Cx} {G : Prg} {C : Ctx} {n : Nat} {sc : Scope} {N : List Str} (h : Cn X G C n sc N) : X.A.units + 65 < cLine := by
  have := h.room.un
  omega
def visC (sc : Scope) (x : Str) : Bool := match sc.names.lookup x with
  | some .local => true
  | some .cell => true
  | some .free => true
  | _ => false
theorem Cn.vis {X : Cx} {G : Prg} {C : Ctx} {n : Nat} {sc : Scope} {N : List Str} (h : Cn X G C n sc N) {x : Str} (v : visC sc x = true) : Vis X.env.scope x := by
  unfold visC at v
  split at v
  · rename_i e; exact .inl (h.lk x _ e (by decide))
  · rename_i e; exact .inr (.inl (h.lk x _ e (by decide)))
  · rename_i e
    rcases h.lf x e with q | q
    · exact .inr (.inl q)
    · exact .inr (.inr q)
  · cases v
/-! ### what is shown -/
section
variable (X : Cx) (C : Ctx)
def SE (ir : E) (e : Expr) : Prop := ∀ (ρ : Env) (r : OV) (ρ' : Env), evE C ir ρ = some (r, ρ') → ∀ (σ : L2.St) (H Hf : Hp) (α : An) (τ : List OA), Rel σ ρ α → WR X.K Hf H (tr α ++ τ) → ∀ Q : VK,
  (∀ (H' Hf' : Hp) (α' : An) (x : OA), Same Hf Hf' → Rel σ ρ' α' → x.o = r → WR X.K Hf' H' (x :: (tr α' ++ τ)) → Q x.v H') → WE X e σ H Q
def ST (ir : E) (e : Expr) : Prop := ∀ (ρ : Env) (r : OV) (ρ' : Env) (b : Bool), evE C ir ρ = some (r, ρ') → truD r.d = some b → ∀ (σ : L2.St) (H Hf : Hp) (α : An) (τ : List OA), Rel σ ρ α → WR X.K Hf H (tr α ++ τ) → ∀ Q : Bool → Hp → Prop,
  (∀ (H' Hf' : Hp) (α' : An), Same Hf Hf' → Rel σ ρ' α' → WR X.K Hf' H' (tr α' ++ τ) → Q b H') → WT X e σ H Q
/-- the same whatever the 'whole' is -/
def SW (ir : E) (e : Expr) : Prop := ∀ (ρ : Env) (r : OV) (ρ' : Env) (b : Bool), evE C ir ρ = some (r, ρ') → truD r.d = some b → ∀ (σ : L2.St) (H Hf : Hp) (α : An) (τ : List OA), Rel σ ρ α → WR X.K Hf H (tr α ++ τ) → ∀ Q : Bool → Hp → Prop,
  (∀ (H' Hf' : Hp) (α' : An), Same Hf Hf' → Rel σ ρ' α' → WR X.K Hf' H' (tr α' ++ τ) → Q b H') → WW X e σ H Q
def SEs (ir : Es) (es : List Expr) : Prop := ∀ (ρ : Env) (r : List OV) (ρ' : Env), evEs C ir ρ = some (r, ρ') → ∀ (σ : L2.St) (H Hf : Hp) (α : An) (τ : List OA), Rel σ ρ α → WR X.K Hf H (tr α ++ τ) → ∀ Q : List V → Hp → Prop,
  (∀ (H' Hf' : Hp) (α' : An) (xs : List OA), Same Hf Hf' → Rel σ ρ' α' → OA.os xs = r → WR X.K Hf' H' (xs ++ (tr α' ++ τ)) → Q (xs.map OA.v) H') → WA X es σ H Q
end
section
variable {X : Cx} {G : Prg} {C : Ctx} {n : Nat} {sc : Scope} {N : List Str}
theorem perm_mid {x : OA} {a b : List OA} : (a ++ (x :: b)).Perm (x :: (a ++ b)) := List.perm_middle
/-- one operand, frozen -/
theorem one {a : E} {ea : Expr} (ha : SE X C a ea) {ρ ρ1 : Env} {x : OV} (e1 : evE C a ρ = some (x, ρ1)) {σ : L2.St} {H Hf : Hp} {α : An} {τ : List OA} (R : Rel σ ρ α) (w : WR X.K Hf H (tr α ++ τ)) (Z : V → Hp → Prop)
    (k : ∀ (H' Hf' : Hp) (α' : An) (u : V), Same Hf Hf' → Rel σ ρ1 α' → WR X.K Hf' H' (tr α' ++ τ) → Dp X.K Hf' u x.d → Z u H') : WE X ea σ H Z := by
  refine ha ρ x ρ1 e1 σ H Hf α τ R w _ fun H' Hf' α' y s1 R1 eo w1 => ?_
  obtain ⟨Hf2, s2, w2⟩ := w1.freeze
  rw [eo] at w2
  exact k H' Hf2 α' y.v (s1.trans s2) R1 w2.tail w2.dpf
/-- two operands, frozen -/
theorem two {a b : E} {ea eb : Expr} (ha : SE X C a ea) (hb : SE X C b eb) {ρ ρ1 ρ2 : Env} {x y : OV} (e1 : evE C a ρ = some (x, ρ1)) (e2 : evE C b ρ1 = some (y, ρ2)) {σ : L2.St} {H Hf : Hp} {α : An} {τ : List OA} (R : Rel σ ρ α) (w : WR X.K Hf H (tr α ++ τ)) (Z : V → V → Hp → Prop)
    (k : ∀ (H' Hf' : Hp) (α' : An) (u v : V), Same Hf Hf' → Rel σ ρ2 α' → WR X.K Hf' H' (tr α' ++ τ) → Dp X.K Hf' u x.d → Dp X.K Hf' v y.d → Z u v H') : WE X ea σ H fun u H1 => WE X eb σ H1 fun v H2 => Z u v H2 := by
  refine one ha e1 R w _ fun H1 Hf1 α1 u s1 R1 w1 du => ?_
  refine one hb e2 R1 w1 _ fun H2 Hf2 α2 v s2 R2 w2 dv => ?_
  exact k H2 Hf2 α2 u v (s1.trans s2) R2 w2 (dp_same s2 du) dv
theorem se_c {d : D} {k : Const} {j : Nat} {pos : Pos} (h : (match d, k with
    | .none, .none => true
    | .bool b, .bool c => b == c
    | .int i, .int j => i == j
    | .str x, .str y => x == y
    | _, _ => false) = true) : SE X C (.c d) (.Constant k j pos) := by
  intro ρ r ρ' he σ H Hf α τ R w Q q
  cases he
  cases d with
  | none =>
    cases k with
    | none => exact pe_we pe_non (q H Hf α (.fz .non .none) (Same.refl _) R rfl (w.addF .non))
    | _ => cases h
  | bool b =>
    cases k with
    | bool c =>
      have e : b = c := by simpa using h
      subst e
      exact pe_we pe_bl (q H Hf α (.fz (.bl b) (.bool b)) (Same.refl _) R rfl (w.addF (.bl b)))
    | _ => cases h
  | int b =>
    cases k with
    | int c =>
      have e : b = c := by simpa using h
      subst e
      exact pe_we pe_int (q H Hf α (.fz (.int b) (.int b)) (Same.refl _) R rfl (w.addF (.int b)))
    | _ => cases h
  | str b =>
    cases k with
    | str c =>
      have e : b = c := by simpa using h
      subst e
      exact pe_we pe_str (q H Hf α (.fz (.str b) (.str b)) (Same.refl _) R rfl (w.addF (.str b)))
    | _ => cases h
  | list x => cases k <;> cases h
  | tuple x => cases k <;> cases h
  | dict x => cases k <;> cases h
def okNm (x : Str) : Bool := !(x == ("__debug__" : Str)) && !(x == ("__classdict__" : Str))
theorem okNm_inv {x : Str} (h : okNm x = true) : (x == ("__debug__" : Str)) = false ∧ (x == ("__classdict__" : Str)) = false := by
  unfold okNm at h
  rw [Bool.and_eq_true_iff] at h
  exact ⟨by simpa using h.1, by simpa using h.2⟩
theorem getF_inv {ρ : Env} {i : Nat} {d : D} (h : getF ρ i = some d) : ρ[i]? = some (some (.fz d)) := by
  unfold getF at h
  split at h
  · cases h; assumption
  · cases h
theorem get_inv {ρ : Env} {i : Nat} {o : OV} (h : get ρ i = some o) : ρ[i]? = some (some o) := by
  unfold get at h
  split at h
  · cases h; assumption
  · cases h
theorem getL_inv {ρ : Env} {i : Nat} {xs : List OV} (h : getL ρ i = some xs) : ρ[i]? = some (some (.ol xs)) := by
  unfold getL at h
  split at h
  · cases h; assumption
  · cases h
theorem oa_fz {x : OA} {d : D} (h : x.o = .fz d) : ∃ v, x = .fz v d := by
  cases x with
  | fz v e => cases h; exact ⟨v, rfl⟩
  | ol a xs => cases h
  | ot a xs => cases h
theorem oa_ol {x : OA} {xs : List OV} (h : x.o = .ol xs) : ∃ a ys, x = .ol a ys ∧ OA.os ys = xs := by
  cases x with
  | fz v e => cases h
  | ol a ys => cases h; exact ⟨a, ys, rfl, rfl⟩
  | ot a xs => cases h
theorem slot_dp {K : PySem.W.Frag} {Hf H : Hp} {α : An} {τ : List OA} {i : Nat} {v : V} {d : D} (w : WR K Hf H (tr α ++ τ)) (h : α[i]? = some (some (.fz v d))) : Dp K Hf v d := (w.takeS h).dpf
theorem se_v (hc : Cn X G C n sc N) {i : Nat} {x : Str} {pos : Pos} (hi : N[i]? = some x) (hv : visC sc x = true) (ho : okNm x = true) : SE X C (.v i) (.Name x pos) := by
  intro ρ r ρ' he σ H Hf α τ R w Q q
  obtain ⟨d, e1, e2⟩ := b1_inv he
  cases e2
  obtain ⟨y, e3, e4, e5⟩ := R.slot (getF_inv e1)
  obtain ⟨v, rfl⟩ := oa_fz e4
  have hd := slot_dp w e3
  refine pe_we (pe_var (i := i) (by rw [hc.hN]; exact hi) (hc.vis hv) (okNm_inv ho).1 (okNm_inv ho).2) ⟨v, e5, ?_⟩
  exact q H Hf α (.fz v d) (Same.refl _) R rfl (w.addF hd)
theorem giv_q {K : PySem.W.Frag} {Hf0 Hf H : Hp} {α : An} {τ : List OA} {σ : L2.St} {ρ : Env} {r : OV} {Q : VK} (s0 : Same Hf0 Hf) (R : Rel σ ρ α)
    (q : ∀ (H' Hf' : Hp) (α' : An) (x : OA), Same Hf0 Hf' → Rel σ ρ α' → x.o = r → WR K Hf' H' (x :: (tr α' ++ τ)) → Q x.v H') : Giv K Hf H (tr α ++ τ) r Q :=
  fun H' Hf' x s1 e w => q H' Hf' α x (s0.trans s1) R e w
theorem se_bin {op : Bop} {a b : E} {ea eb : Expr} {pos : Pos} (ha : SE X C a ea) (hb : SE X C b eb) : SE X C (.bin op a b) (.BinOp ea (opA op) eb pos) := by
  intro ρ r ρ' he σ H Hf α τ R w Q q
  obtain ⟨x, ρ1, e1, he⟩ := bd_inv he
  obtain ⟨y, ρ2, e2, he⟩ := bd_inv he
  obtain ⟨z, e3, he⟩ := b1_inv he
  cases he
  obtain ⟨rr, ho, hk⟩ := bin_ok (X := X) e3
  refine pe_we (pe_op ho we_pe we_pe) ?_
  exact two ha hb e1 e2 R w _ fun H' Hf' α' u v s1 R1 w1 du dv => hk u v Hf' H' _ Q du dv w1 (giv_q s1 R1 q)
theorem se_cmp (hc : Cn X G C n sc N) {op : Cop} {a b : E} {ea eb : Expr} {pos : Pos} (ha : SE X C a ea) (hb : SE X C b eb) (hm : behindInMarks (copA op) eb = false) : SE X C (.cmp op a b) (.Compare ea [copA op] [eb] pos) := by
  intro ρ r ρ' he σ H Hf α τ R w Q q
  obtain ⟨x, ρ1, e1, he⟩ := bd_inv he
  obtain ⟨y, ρ2, e2, he⟩ := bd_inv he
  obtain ⟨z, e3, he⟩ := b1_inv he
  cases he
  obtain ⟨rr, ho, hk⟩ := cmp_ok (X := X) hc.units e3
  refine pe_we (pe_cmpR ho we_pe we_pe hm) ?_
  exact two ha hb e1 e2 R w _ fun H' Hf' α' u v s1 R1 w1 du dv => hk u v Hf' H' _ Q du dv w1 (giv_q s1 R1 q)
theorem st_cmp (hc : Cn X G C n sc N) {op : Cop} {a b : E} {ea eb : Expr} {pos : Pos} (ha : SE X C a ea) (hb : SE X C b eb) (hm : behindInMarks (copA op) eb = false) : ST X C (.cmp op a b) (.Compare ea [copA op] [eb] pos) := by
  intro ρ r ρ' t he ht σ H Hf α τ R w Q q
  obtain ⟨x, ρ1, e1, he⟩ := bd_inv he
  obtain ⟨y, ρ2, e2, he⟩ := bd_inv he
  obtain ⟨z, e3, he⟩ := b1_inv he
  cases he
  cases ht
  obtain ⟨rr, ho, hk⟩ := cmp_ok (X := X) hc.units e3
  refine pt_wt (pt_cmpR ho we_pe we_pe hm) ?_
  refine two ha hb e1 e2 R w _ fun H' Hf' α' u v s1 R1 w1 du dv => hk u v Hf' H' _ _ du dv w1 fun H2 Hf2 x2 s2 e w2 => ?_
  obtain ⟨v2, rfl⟩ := oa_fz e
  exact ⟨_, dp_bool w2.dpf, q H2 Hf2 α' (s1.trans s2) R1 w2.tail⟩
theorem se_isn {m : Bool} {a : E} {ea : Expr} {pos pos' : Pos} {j : Nat} (ha : SE X C a ea) : SE X C (.isn m a) (.Compare ea [if m then .IsNot else .Is] [.Constant .none j pos'] pos) := by
  intro ρ r ρ' he σ H Hf α τ R w Q q
  obtain ⟨x, ρ1, e1, he⟩ := bd_inv he
  have key : ∀ (c : Bool), (x.d = .none → c = true) → (x.d ≠ .none → c = false) → r = .fz (.bool (if m then !c else c)) → ρ' = ρ1 → WE X (.Compare ea [if m then .IsNot else .Is] [.Constant .none j pos'] pos) σ H Q := by
    intro c h1 h2 er eρ
    subst er eρ
    have dn : ∀ {Hg : Hp} {u : V}, Dp X.K Hg u x.d → decide (u = .non) = c := fun {Hg u} du => by
      by_cases hx : x.d = .none
      · rw [hx] at du
        rw [h1 hx, dp_none du]; rfl
      · rw [h2 hx]
        refine decide_eq_false fun z => hx ?_
        subst z
        generalize x.d = dd at du
        cases du
        rfl
    cases m with
    | true =>
      refine pe_we (pe_cmp (pc_notN we_pe) rfl) ?_
      refine one ha e1 R w _ fun H' Hf' α' u s1 R1 w1 du => ?_
      show Q (.bl (!decide (u = .non))) H'
      rw [dn du]
      exact giv_f w1 (.bl _) (giv_q s1 R1 q)
    | false =>
      refine pe_we (pe_cmp (pc_isN we_pe) rfl) ?_
      refine one ha e1 R w _ fun H' Hf' α' u s1 R1 w1 du => ?_
      show Q (.bl (decide (u = .non))) H'
      rw [dn du]
      exact giv_f w1 (.bl _) (giv_q s1 R1 q)
  cases hx : x.d with
  | none =>
    rw [hx] at he
    have he := Option.some.inj (show some (OV.fz (.bool (!m)), ρ1) = some (r, ρ') from he)
    cases he
    exact key true (fun _ => rfl) (fun z => absurd hx z) (by cases m <;> rfl) rfl
  | _ =>
    rw [hx] at he
    have he := Option.some.inj (show some (OV.fz (.bool m), ρ1) = some (r, ρ') from he)
    cases he
    exact key false (fun z => by rw [hx] at z; cases z) (fun _ => rfl) (by cases m <;> rfl) rfl
theorem se_neg {a : E} {ea : Expr} {pos : Pos} (ha : SE X C a ea) : SE X C (.neg a) (.UnaryOp .USub ea pos) := by
  intro ρ r ρ' he σ H Hf α τ R w Q q
  obtain ⟨x, ρ1, e1, he⟩ := bd_inv he
  cases hx : x.d with
  | int i =>
    rw [hx] at he
    have he := Option.some.inj (show some (OV.fz (.int (-i)), ρ1) = some (r, ρ') from he)
    cases he
    refine pe_we (pe_un un_neg we_pe) ?_
    refine one ha e1 R w _ fun H' Hf' α' u s1 R1 w1 du => ?_
    rw [hx] at du
    exact ⟨i, dp_int du, giv_f w1 (.int _) (giv_q s1 R1 q)⟩
  | _ => rw [hx] at he; cases he
theorem se_nt {a : E} {ea : Expr} {pos : Pos} (ha : SE X C a ea) : SE X C (.nt a) (.UnaryOp .Not ea pos) := by
  intro ρ r ρ' he σ H Hf α τ R w Q q
  obtain ⟨x, ρ1, e1, he⟩ := bd_inv he
  obtain ⟨t, e2, he⟩ := b1_inv he
  cases he
  refine pe_we (pe_notT we_pe) ?_
  refine one ha e1 R w _ fun H' Hf' α' u s1 R1 w1 du => ?_
  exact ⟨t, tru_of (dp_same w1.sub du) e2, giv_f w1 (.bl _) (giv_q s1 R1 q)⟩
theorem st_nt {a : E} {ea : Expr} {pos : Pos} (ha : ST X C a ea) : ST X C (.nt a) (.UnaryOp .Not ea pos) := by
  intro ρ r ρ' b he ht σ H Hf α τ R w Q q
  obtain ⟨x, ρ1, e1, he⟩ := bd_inv he
  obtain ⟨t, e2, he⟩ := b1_inv he
  cases he
  cases ht
  refine pt_wt (pt_not wt_pt) ?_
  exact ha ρ x _ t e1 e2 σ H Hf α τ R w _ fun H' Hf' α' s1 R1 w1 => q H' Hf' α' s1 R1 w1
/-- a test that is no and, or, not, comparison, conditional -/
theorem st_plain {a : E} {ea : Expr} (ha : SE X C a ea) (he : ∀ whole, isTrue ea X.env whole = (do let v ← whole; standAt ea.pos; holding [v] (truthy v))) : ST X C a ea := by
  intro ρ r ρ' b e1 ht σ H Hf α τ R w Q q
  refine pt_wt (pt_truth we_pe he) ?_
  refine one ha e1 R w _ fun H' Hf' α' u s1 R1 w1 du => ?_
  exact ⟨b, tru_of (dp_same w1.sub du) ht, q H' Hf' α' s1 R1 w1⟩
theorem se_ite {t a b : E} {et ea eb : Expr} {pos : Pos} (ht : ST X C t et) (ha : SE X C a ea) (hb : SE X C b eb) : SE X C (.ite t a b) (.IfExp et ea eb pos) := by
  intro ρ r ρ' he σ H Hf α τ R w Q q
  obtain ⟨x, ρ1, e1, he⟩ := bd_inv he
  obtain ⟨c, e2, he⟩ := b1_inv he
  refine pe_we (pe_ifExp wt_pt we_pe we_pe) ?_
  refine ht ρ x ρ1 c e1 e2 σ H Hf α τ R w _ fun H' Hf' α' s1 R1 w1 => ?_
  cases c with
  | true => exact iteT (ha ρ1 r ρ' he σ H' Hf' α' τ R1 w1 Q fun H2 Hf2 α2 x2 s2 R2 e w2 => q H2 Hf2 α2 x2 (s1.trans s2) R2 e w2)
  | false => exact iteF (hb ρ1 r ρ' he σ H' Hf' α' τ R1 w1 Q fun H2 Hf2 α2 x2 s2 R2 e w2 => q H2 Hf2 α2 x2 (s1.trans s2) R2 e w2)
theorem tru_tree {K : PySem.W.Frag} {Hf H : Hp} {T : List OA} {x : OA} {b : Bool} (w : WR K Hf H (x :: T)) (h : truD x.o.d = some b) : TruV K x.v H b := by
  obtain ⟨Hf2, s2, w2⟩ := w.freeze
  exact tru_of w2.dp h
theorem se_an {a b : E} {ea eb : Expr} {es : List Expr} {pos : Pos} (ha : SE X C a ea) (hb : SE X C b (.BoolOp .And (eb :: es) pos)) : SE X C (.an a b) (.BoolOp .And (ea :: eb :: es) pos) := by
  intro ρ r ρ' he σ H Hf α τ R w Q q
  obtain ⟨x, ρ1, e1, he⟩ := bd_inv he
  obtain ⟨c, e2, he⟩ := b1_inv he
  refine pe_we (pe_andT we_pe we_pe) ?_
  refine ha ρ x ρ1 e1 σ H Hf α τ R w _ fun H' Hf' α' y s1 R1 eo w1 => ⟨c, tru_tree w1 (by rw [eo]; exact e2), ?_⟩
  cases c with
  | true => exact iteT (hb ρ1 r ρ' he σ H' Hf' α' τ R1 w1.tail Q fun H2 Hf2 α2 x2 s2 R2 e w2 => q H2 Hf2 α2 x2 (s1.trans s2) R2 e w2)
  | false =>
    cases he
    exact iteF (q H' Hf' α' y s1 R1 eo w1)
theorem se_or {a b : E} {ea eb : Expr} {es : List Expr} {pos : Pos} (ha : SE X C a ea) (hb : SE X C b (.BoolOp .Or (eb :: es) pos)) : SE X C (.orr a b) (.BoolOp .Or (ea :: eb :: es) pos) := by
  intro ρ r ρ' he σ H Hf α τ R w Q q
  obtain ⟨x, ρ1, e1, he⟩ := bd_inv he
  obtain ⟨c, e2, he⟩ := b1_inv he
  refine pe_we (pe_orT we_pe we_pe) ?_
  refine ha ρ x ρ1 e1 σ H Hf α τ R w _ fun H' Hf' α' y s1 R1 eo w1 => ⟨c, tru_tree w1 (by rw [eo]; exact e2), ?_⟩
  cases c with
  | false => exact iteF (hb ρ1 r ρ' he σ H' Hf' α' τ R1 w1.tail Q fun H2 Hf2 α2 x2 s2 R2 e w2 => q H2 Hf2 α2 x2 (s1.trans s2) R2 e w2)
  | true =>
    cases he
    exact iteT (q H' Hf' α' y s1 R1 eo w1)
theorem se_one {a : E} {ea : Expr} {op : BoolOp} {pos : Pos} (ha : SE X C a ea) : SE X C a (.BoolOp op [ea] pos) := by
  intro ρ r ρ' he σ H Hf α τ R w Q q
  exact pe_we (pe_one we_pe) (ha ρ r ρ' he σ H Hf α τ R w Q q)
theorem sw_and {a b : E} {ea eb : Expr} {es : List Expr} {pos : Pos} (ha : ST X C a ea) (hb : SW X C b (.BoolOp .And (eb :: es) pos)) : SW X C (.an a b) (.BoolOp .And (ea :: eb :: es) pos) := by
  intro ρ r ρ' t he ht σ H Hf α τ R w Q q
  obtain ⟨x, ρ1, e1, he⟩ := bd_inv he
  obtain ⟨c, e2, he⟩ := b1_inv he
  refine pw_ww (pw_and wt_pt ww_pw) ?_
  refine ha ρ x ρ1 c e1 e2 σ H Hf α τ R w _ fun H' Hf' α' s1 R1 w1 => ?_
  cases c with
  | true => exact iteT (hb ρ1 r ρ' t he ht σ H' Hf' α' τ R1 w1 Q fun H2 Hf2 α2 s2 R2 w2 => q H2 Hf2 α2 (s1.trans s2) R2 w2)
  | false =>
    cases he
    rw [ht] at e2
    cases e2
    exact iteF (q H' Hf' α' s1 R1 w1)
theorem sw_or {a b : E} {ea eb : Expr} {es : List Expr} {pos : Pos} (ha : ST X C a ea) (hb : SW X C b (.BoolOp .Or (eb :: es) pos)) : SW X C (.orr a b) (.BoolOp .Or (ea :: eb :: es) pos) := by
  intro ρ r ρ' t he ht σ H Hf α τ R w Q q
  obtain ⟨x, ρ1, e1, he⟩ := bd_inv he
  obtain ⟨c, e2, he⟩ := b1_inv he
  refine pw_ww (pw_or wt_pt ww_pw) ?_
  refine ha ρ x ρ1 c e1 e2 σ H Hf α τ R w _ fun H' Hf' α' s1 R1 w1 => ?_
  cases c with
  | false => exact iteF (hb ρ1 r ρ' t he ht σ H' Hf' α' τ R1 w1 Q fun H2 Hf2 α2 s2 R2 w2 => q H2 Hf2 α2 (s1.trans s2) R2 w2)
  | true =>
    cases he
    rw [ht] at e2
    cases e2
    exact iteT (q H' Hf' α' s1 R1 w1)
theorem sw_one_and {a : E} {ea : Expr} {pos : Pos} (ha : ST X C a ea) : SW X C a (.BoolOp .And [ea] pos) := by
  intro ρ r ρ' t he ht σ H Hf α τ R w Q q
  exact pw_ww (pw_and1 wt_pt) (ha ρ r ρ' t he ht σ H Hf α τ R w Q q)
theorem sw_one_or {a : E} {ea : Expr} {pos : Pos} (ha : ST X C a ea) : SW X C a (.BoolOp .Or [ea] pos) := by
  intro ρ r ρ' t he ht σ H Hf α τ R w Q q
  exact pw_ww (pw_or1 wt_pt) (ha ρ r ρ' t he ht σ H Hf α τ R w Q q)
theorem sw_st {a : E} {ea : Expr} (h : SW X C a ea) : ST X C a ea := fun ρ r ρ' t he ht σ H Hf α τ R w Q q => ww_wt (h ρ r ρ' t he ht σ H Hf α τ R w Q q)
theorem se_chn (hc : Cn X G C n sc N) {o1 o2 : Cop} {a b c : E} {ea eb ec : Expr} {pos : Pos} (ha : SE X C a ea) (hb : SE X C b eb) (hcc : SE X C c ec) (hm : lastMarks [copA o1, copA o2] [eb, ec] = false) : SE X C (.chn o1 o2 a b c) (.Compare ea [copA o1, copA o2] [eb, ec] pos) := by
  intro ρ r ρ' he σ H Hf α τ R w Q q
  obtain ⟨x, ρ1, e1, he⟩ := bd_inv he
  obtain ⟨y, ρ2, e2, he⟩ := bd_inv he
  obtain ⟨z, e3, he⟩ := b1_inv he
  obtain ⟨rr, ho, hk⟩ := cmp_ok (X := X) hc.units e3
  have fin : ∀ (rr' : R2), OpR X (compareOp (copA o2)) rr' → (∀ (H' Hf' : Hp) (α' : An) (u v : V), Same Hf Hf' → Rel σ ρ2 α' → WR X.K Hf' H' (tr α' ++ τ) → Dp X.K Hf' u x.d → Dp X.K Hf' v y.d → if z = true then WE X ec σ H' fun w' H4 => rr' v w' H4 Q else Q (.bl false) H') → WE X (.Compare ea [copA o1, copA o2] [eb, ec] pos) σ H Q := by
    intro rr' ho' k
    refine pe_we (pe_chain ho ho' we_pe we_pe we_pe hm) ?_
    refine two ha hb e1 e2 R w _ fun H' Hf' α' u v s1 R1 w1 du dv => hk u v Hf' H' _ _ du dv w1 fun H2 Hf2 x2 s2 e w2 => ?_
    obtain ⟨v2, rfl⟩ := oa_fz e
    exact ⟨z, dp_bool w2.dpf, k H2 Hf2 α' u v (s1.trans s2) R1 w2.tail (dp_same s2 du) (dp_same s2 dv)⟩
  cases z with
  | true =>
    obtain ⟨p, ρ3, e4, he⟩ := bd_inv he
    obtain ⟨t, e5, he⟩ := b1_inv he
    cases he
    obtain ⟨rr', ho', hk'⟩ := cmp_ok (X := X) hc.units e5
    refine fin rr' ho' fun H' Hf' α' u v s1 R1 w1 du dv => iteT ?_
    refine one hcc e4 R1 w1 _ fun H2 Hf2 α2 v2 s2 R2 w2 dp => ?_
    exact hk' v v2 Hf2 H2 _ Q (dp_same s2 dv) dp w2 (giv_q (s1.trans s2) R2 q)
  | false =>
    cases he
    have hf : OpR X (compareOp (copA o2)) fun _ _ _ _ => False := fun _ _ _ _ _ _ _ _ _ _ _ _ h => h.elim
    exact fin _ hf fun H' Hf' α' u v s1 R1 w1 du dv => iteF (giv_f w1 (.bl _) (giv_q s1 R1 q))
end
end PF

/-! PF, sixth part: displays, subscripts, slices, built-ins, calls. -/
namespace PF
open PySem PySem.Spec PyProof.Rows L2
/-- a form that stands for itself wherever it stands -/
def kindOk : Expr → Bool
  | .Starred .. => false
  | .Slice .. => false
  | .Set .. => false
  | .SetComp .. => false
  | .DictComp .. => false
  | .GeneratorExp .. => false
  | _ => true
theorem star_ok {e : Expr} (h : kindOk e = true) (es : List Expr) (env : PySem.Env) : starEach (e :: es) env = (false, eval e env) :: starEach es env := by
  cases e <;> first | rfl | cases h
theorem plain_ix {e : Expr} (h : kindOk e = true) : PlainIx e := fun o i => by
  cases e <;> first | rfl | cases h
theorem marks_ok {e : Expr} (h : kindOk e = true) (op : CmpOp) : behindInMarks op e = false := by
  cases e <;> first | rfl | cases h
theorem set_ok {e : Expr} (h : kindOk e = true) (env : PySem.Env) (x : Value) : foldedSetIterable e env x = pure x := by
  cases e <;> first | rfl | cases h
def kindOks (es : List Expr) : Bool := es.all kindOk
theorem stars_any {pos : Pos} {env : PySem.Env} : ∀ {es : List Expr}, kindOks es = true → (backTo pos (starEach es env)).any (·.1) = false
  | [], _ => rfl
  | e :: es, h => by
    have z := Bool.and_eq_true_iff.mp (show (kindOk e && es.all kindOk) = true from h)
    rw [star_ok z.1]
    show (false || (backTo pos (starEach es env)).any (·.1)) = false
    rw [stars_any z.2]
    rfl
section
variable {X : Cx} {G : Prg} {C : Ctx} {n : Nat} {sc : Scope} {N : List Str}
theorem ses_nil : SEs X C .nil [] := by
  intro ρ r ρ' he σ H Hf α τ R w Q q
  cases he
  exact pa_wa pa_nil (q H Hf α [] (Same.refl _) R rfl w)
theorem ses_cons {e : E} {es : Es} {ee : Expr} {ees : List Expr} (ha : SE X C e ee) (hs : SEs X C es ees) (hk : kindOk ee = true) : SEs X C (.cons e es) (ee :: ees) := by
  intro ρ r ρ' he σ H Hf α τ R w Q q
  obtain ⟨x, ρ1, e1, he⟩ := bd_inv he
  obtain ⟨xs, ρ2, e2, he⟩ := bd_inv he
  cases he
  refine pa_wa (pa_cons we_pe wa_pa (star_ok hk _ _)) ?_
  refine ha ρ x ρ1 e1 σ H Hf α τ R w _ fun H1 Hf1 α1 y s1 R1 eo w1 => ?_
  refine hs ρ1 xs _ e2 σ H1 Hf1 α1 (y :: τ) R1 (w1.perm perm_mid.symm) _ fun H2 Hf2 α2 ys s2 R2 eos w2 => ?_
  refine q H2 Hf2 α2 (y :: ys) (s1.trans s2) R2 ?_ ?_
  · show y.o :: OA.os ys = _
    rw [eo, eos]
  · refine w2.perm ?_
    rw [← List.append_assoc, List.cons_append, ← List.append_assoc]
    exact perm_mid
theorem os_len : ∀ xs : List OA, (OA.os xs).length = xs.length
  | [] => rfl
  | x :: xs => by rw [OA.os, List.length_cons, List.length_cons, os_len xs]
theorem allFz_inv : ∀ {xs : List OV} {ds : List D}, allFz xs = some ds → xs = fzs ds
  | [], _, h => by cases h; rfl
  | .fz d :: xs, ds, h => by
    obtain ⟨es, e1, e2⟩ := b1_inv (show b1 (allFz xs) (fun ds => some (d :: ds)) = some ds from h)
    cases e2
    rw [allFz_inv e1]; rfl
  | .ol _ :: _, _, h => by cases h
  | .ot _ :: _, _, h => by cases h
theorem fzs_trees {K : PySem.W.Frag} {Hf H : Hp} {T : List OA} : ∀ {xs : List OA} {ds : List D}, WR K Hf H (xs ++ T) → OA.os xs = fzs ds → DpAll K Hf (xs.map OA.v) ds ∧ WR K Hf H T
  | [], ds, w, e => by
    cases ds with
    | nil => exact ⟨.nil, w⟩
    | cons d ds => cases e
  | x :: xs, ds, w, e => by
    cases ds with
    | nil => cases e
    | cons d ds =>
      have e : x.o :: OA.os xs = .fz d :: fzs ds := e
      injection e with e1 e2
      obtain ⟨v, rfl⟩ := oa_fz e1
      obtain ⟨h1, h2⟩ := fzs_trees (T := T) w.tail e2
      exact ⟨.cons w.dpf h1, h2⟩
theorem se_tup {es : Es} {ees : List Expr} {k : Nat} {pos : Pos} (hs : SEs X C es ees) : SE X C (.tup es) (.Tuple ees k pos) := by
  intro ρ r ρ' he σ H Hf α τ R w Q q
  obtain ⟨xs, ρ1, e1, he⟩ := bd_inv he
  obtain ⟨hz, he⟩ := gd_inv he
  cases he
  refine pe_we (pe_tup wa_pa) ?_
  refine hs ρ xs _ e1 σ H Hf α τ R w _ fun H1 Hf1 α1 ys s1 R1 eos w1 => ⟨?_, fun p hp => ?_⟩
  · rw [List.length_map, ← os_len, eos]
    exact of_decide_eq_true hz
  · unfold mkTup at q
    cases ha : allFz xs with
    | some ds =>
      rw [ha] at q
      have e := allFz_inv ha
      obtain ⟨d1, w2⟩ := fzs_trees w1 (eos.trans e)
      exact giv_T w2 hp d1 (giv_q s1 R1 q)
    | none =>
      rw [ha] at q
      obtain ⟨s2, w2⟩ := w1.newO hp
      exact q _ _ α1 (.ot p ys) (s1.trans s2) R1 (by show OV.ot (OA.os ys) = _; rw [eos]) w2
theorem se_lst {es : Es} {ees : List Expr} {pos : Pos} (hs : SEs X C es ees) : SE X C (.lst es) (.List ees pos) := by
  intro ρ r ρ' he σ H Hf α τ R w Q q
  obtain ⟨xs, ρ1, e1, he⟩ := bd_inv he
  obtain ⟨hz, he⟩ := gd_inv he
  cases he
  refine pe_we (pe_lst wa_pa) ?_
  refine hs ρ xs _ e1 σ H Hf α τ R w _ fun H1 Hf1 α1 ys s1 R1 eos w1 => ⟨?_, fun p hp => ?_⟩
  · rw [List.length_map, ← os_len, eos]
    exact of_decide_eq_true hz
  · exact q _ _ α1 (.ol p ys) s1 R1 (by show OV.ol (OA.os ys) = _; rw [eos]) (w1.newL hp)
theorem se_idx {a b : E} {ea eb : Expr} {pos : Pos} (ha : SE X C a ea) (hb : SE X C b eb) (hk : kindOk eb = true) : SE X C (.idx a b) (.Subscript ea eb pos) := by
  intro ρ r ρ' he σ H Hf α τ R w Q q
  obtain ⟨x, ρ1, e1, he⟩ := bd_inv he
  obtain ⟨y, ρ2, e2, he⟩ := bd_inv he
  obtain ⟨z, e3, he⟩ := b1_inv he
  cases he
  obtain ⟨rr, ho, hk'⟩ := idx_ok (X := X) e3
  refine pe_we (pe_ix ho we_pe we_pe (plain_ix hk)) ?_
  exact two ha hb e1 e2 R w _ fun H' Hf' α' u v s1 R1 w1 du dv => hk' u v Hf' H' _ Q du dv w1 (giv_q s1 R1 q)
/-- a slice's part -/
def SO (X : Cx) (C : Ctx) (ir : Oe) (e : Option Expr) : Prop := ∀ (ρ : Env) (r : Option D) (ρ' : Env) (l : Option Int), evO C ir ρ = some (r, ρ') → optI r = some l → ∀ (σ : L2.St) (H Hf : Hp) (α : An) (τ : List OA), Rel σ ρ α → WR X.K Hf H (tr α ++ τ) → ∀ Q : Option Int → Hp → Prop,
  (∀ (H' Hf' : Hp) (α' : An), Same Hf Hf' → Rel σ ρ' α' → WR X.K Hf' H' (tr α' ++ τ) → Q l H') → WO X e σ H Q
theorem so_no : SO X C .no none := by
  intro ρ r ρ' l he hl σ H Hf α τ R w Q q
  cases he
  cases hl
  exact po_wo po_none (q H Hf α (Same.refl _) R w)
theorem so_ye {a : E} {ea : Expr} (ha : SE X C a ea) : SO X C (.ye a) (some ea) := by
  intro ρ r ρ' l he hl σ H Hf α τ R w Q q
  obtain ⟨x, ρ1, e1, he⟩ := bd_inv he
  cases he
  refine po_wo (po_some we_pe) ?_
  refine one ha e1 R w _ fun H' Hf' α' u s1 R1 w1 du => ?_
  generalize x.d = dd at du hl
  cases dd with
  | int i =>
    cases hl
    exact ⟨i, dp_int du, q H' Hf' α' s1 R1 w1⟩
  | _ => cases hl
theorem se_slc {a : E} {lo hi : Oe} {ea : Expr} {elo ehi : Option Expr} {pos pos' : Pos} (ha : SE X C a ea) (hl : SO X C lo elo) (hh : SO X C hi ehi) : SE X C (.slc a lo hi) (.Subscript ea (.Slice elo ehi none pos') pos) := by
  intro ρ r ρ' he σ H Hf α τ R w Q q
  obtain ⟨x, ρ1, e1, he⟩ := bd_inv he
  obtain ⟨l, ρ2, e2, he⟩ := bd_inv he
  obtain ⟨h, ρ3, e3, he⟩ := bd_inv he
  obtain ⟨l', e4, he⟩ := b1_inv he
  obtain ⟨h', e5, he⟩ := b1_inv he
  obtain ⟨z, e6, he⟩ := b1_inv he
  cases he
  obtain ⟨rr, ho, hk⟩ := slc_ok (X := X) e6
  refine pe_we (pe_slice ho we_pe wo_po wo_po) ?_
  refine one ha e1 R w _ fun H1 Hf1 α1 u s1 R1 w1 du => ?_
  refine hl ρ1 l ρ2 l' e2 e4 σ H1 Hf1 α1 τ R1 w1 _ fun H2 Hf2 α2 s2 R2 w2 => ?_
  refine hh ρ2 h _ h' e3 e5 σ H2 Hf2 α2 τ R2 w2 _ fun H3 Hf3 α3 s3 R3 w3 => ?_
  exact hk u Hf3 H3 _ Q (dp_same (s2.trans s3) du) w3 (giv_q ((s1.trans s2).trans s3) R3 q)
/-! ### built-ins -/
def glC (sc : Scope) (x : Str) : Bool := match sc.names.lookup x with
  | some .globalImplicit => true
  | _ => false
theorem Cn.gl (hc : Cn X G C n sc N) {x : Str} (h : glC sc x = true) : Gl X x := by
  unfold glC at h
  split at h
  · rename_i e
    exact hc.lk x _ e (by decide)
  · cases h
theorem blt_boot (b : Blt) : bootBuiltins (bltN b) = some (bltV b) := by cases b <;> decide +kernel
theorem blt_in (b : Blt) : bltN b ∈ blts := by cases b <;> decide +kernel
theorem blt_nn (b : Blt) : bltN b ≠ "__name__" := by cases b <;> decide +kernel
theorem blt_nd (b : Blt) : (bltN b == ("__debug__" : Str)) = false := by cases b <;> decide +kernel
theorem se_blt (hc : Cn X G C n sc N) {b : Blt} {es : Es} {e : Expr} {ees : List Expr} {p pos : Pos} (hs : SEs X C es (e :: ees)) (hg : glC sc (bltN b) = true) (hk : kindOks (e :: ees) = true) : SE X C (.blt b es) (.Call (.Name (bltN b) p) (e :: ees) [] pos) := by
  intro ρ r ρ' he σ H Hf α τ R w Q q
  obtain ⟨xs, ρ1, e1, he⟩ := bd_inv he
  obtain ⟨z, e2, he⟩ := b1_inv he
  cases he
  obtain ⟨rr, ho, hk2⟩ := blt_ok (X := X) hc.calm e2
  have z := Bool.and_eq_true_iff.mp (show (kindOk e && ees.all kindOk) = true from hk)
  have fin : WA X (e :: ees) σ H fun vs H1 => rr vs H1 Q := by
    refine hs ρ xs _ e1 σ H Hf α τ R w _ fun H1 Hf1 α1 ys s1 R1 eos w1 => ?_
    obtain ⟨Hf2, s2, w2, d2⟩ := w1.freezes
    rw [eos] at d2
    exact hk2 _ Hf2 H1 _ Q d2 w2 (giv_q (s1.trans s2) R1 q)
  have hm := hc.pr.free _ (blt_in b)
  have hb := blt_boot b
  have ty : ∀ T : String, bltV b = .type T → WE X (.Call (.Name (bltN b) p) (e :: ees) [] pos) σ H Q := fun T eT => by
    rw [eT] at ho hb
    exact pe_we (pe_callTy ho (hc.gl hg) hm hb wa_pa (blt_nn b) (blt_nd b) (star_ok z.1 _ _) (stars_any z.2)) fin
  have bt : ∀ T : String, bltV b = .builtin T → WE X (.Call (.Name (bltN b) p) (e :: ees) [] pos) σ H Q := fun T eT => by
    rw [eT] at ho hb
    exact pe_we (pe_callB ho (hc.gl hg) hm hb wa_pa (blt_nn b) (blt_nd b) (star_ok z.1 _ _) (stars_any z.2)) fin
  cases b with
  | int => exact ty _ rfl
  | list => exact ty _ rfl
  | tuple => exact ty _ rfl
  | str => exact ty _ rfl
  | _ => exact bt _ rfl
/-! ### isinstance -/
def tyS : Ty → Str
  | .int => "int"
  | .bool => "bool"
  | .str => "str"
  | .list => "list"
  | .tuple => "tuple"
theorem tyS_boot (t : Ty) : bootBuiltins (tyS t) = some (.type (tyT t)) := by cases t <;> decide +kernel
theorem tyS_in (t : Ty) : tyS t ∈ blts := by cases t <;> decide +kernel
theorem tyS_nn (t : Ty) : tyS t ≠ "__name__" := by cases t <;> decide +kernel
theorem tyS_nd (t : Ty) : (tyS t == ("__debug__" : Str)) = false := by cases t <;> decide +kernel
theorem pe_ty (hc : Cn X G C n sc N) {t : Ty} {p : Pos} (hg : glC sc (tyS t) = true) : PE X (.Name (tyS t) p) (tC (.ty (tyT t))) :=
  pe_bltn (hc.gl hg) (hc.pr.free _ (tyS_in t)) (tyS_boot t) rfl (tyS_nn t) (tyS_nd t)
def tyNames (sc : Scope) : List Ty → List Expr → Bool
  | [], [] => true
  | t :: ts, .Name x _ :: es => decide (x = tyS t) && glC sc x && tyNames sc ts es
  | _, _ => false
theorem wa_tys (hc : Cn X G C n sc N) {σ : L2.St} {H : Hp} : ∀ {ts : List Ty} {es : List Expr} {Q : List V → Hp → Prop}, tyNames sc ts es = true → Q (ts.map fun t => .ty (tyT t)) H → WA X es σ H Q
  | [], [], Q, _, q => pa_wa pa_nil q
  | t :: ts, .Name x p :: es, Q, h, q => by
    have z := Bool.and_eq_true_iff.mp (show (decide (x = tyS t) && glC sc x && tyNames sc ts es) = true from h)
    have z1 := Bool.and_eq_true_iff.mp z.1
    have e := of_decide_eq_true z1.1
    subst e
    refine pa_wa (pa_cons (pe_ty hc z1.2) wa_pa) ?_
    exact wa_tys hc z.2 (Q := fun xs H2 => Q (.ty (tyT t) :: xs) H2) q
  | [], _ :: _, _, h, _ => by cases h
  | _ :: _, [], _, h, _ => by cases h
  | _ :: _, .BoolOp .. :: _, _, h, _ => by cases h
  | _ :: _, .NamedExpr .. :: _, _, h, _ => by cases h
  | _ :: _, .BinOp .. :: _, _, h, _ => by cases h
  | _ :: _, .UnaryOp .. :: _, _, h, _ => by cases h
  | _ :: _, .Lambda .. :: _, _, h, _ => by cases h
  | _ :: _, .IfExp .. :: _, _, h, _ => by cases h
  | _ :: _, .Dict .. :: _, _, h, _ => by cases h
  | _ :: _, .Set .. :: _, _, h, _ => by cases h
  | _ :: _, .ListComp .. :: _, _, h, _ => by cases h
  | _ :: _, .SetComp .. :: _, _, h, _ => by cases h
  | _ :: _, .DictComp .. :: _, _, h, _ => by cases h
  | _ :: _, .GeneratorExp .. :: _, _, h, _ => by cases h
  | _ :: _, .Await .. :: _, _, h, _ => by cases h
  | _ :: _, .Yield .. :: _, _, h, _ => by cases h
  | _ :: _, .YieldFrom .. :: _, _, h, _ => by cases h
  | _ :: _, .Compare .. :: _, _, h, _ => by cases h
  | _ :: _, .Call .. :: _, _, h, _ => by cases h
  | _ :: _, .FormattedValue .. :: _, _, h, _ => by cases h
  | _ :: _, .JoinedStr .. :: _, _, h, _ => by cases h
  | _ :: _, .Constant .. :: _, _, h, _ => by cases h
  | _ :: _, .Attribute .. :: _, _, h, _ => by cases h
  | _ :: _, .Subscript .. :: _, _, h, _ => by cases h
  | _ :: _, .Starred .. :: _, _, h, _ => by cases h
  | _ :: _, .List .. :: _, _, h, _ => by cases h
  | _ :: _, .Tuple .. :: _, _, h, _ => by cases h
  | _ :: _, .Slice .. :: _, _, h, _ => by cases h
theorem isi_in : ("isinstance" : Str) ∈ blts := by decide +kernel
theorem isi_boot : bootBuiltins ("isinstance" : Str) = some (.builtin "isinstance") := by decide +kernel
theorem isi_inv {C : Ctx} {ts : List Ty} {a : E} {ρ ρ' : Env} {r : OV} (he : evE C (.isi ts a) ρ = some (r, ρ')) : ∃ x, evE C a ρ = some (x, ρ') ∧ (∀ y, x.d ≠ .dict y) ∧ r = .fz (.bool (ts.any fun t => isTy t x.d)) := by
  obtain ⟨x, ρ1, e1, he⟩ := bd_inv he
  refine ⟨x, ?_⟩
  generalize x.d = dd at he
  cases dd with
  | dict y => cases he
  | _ => cases he; exact ⟨e1, (fun y z => by cases z), rfl⟩
theorem se_isi1 (hc : Cn X G C n sc N) {t : Ty} {a : E} {ea : Expr} {p p2 pos : Pos} (ha : SE X C a ea) (hk : kindOk ea = true) (hg : glC sc "isinstance" = true) (hg2 : glC sc (tyS t) = true) : SE X C (.isi [t] a) (.Call (.Name "isinstance" p) [ea, .Name (tyS t) p2] [] pos) := by
  intro ρ r ρ' he σ H Hf α τ R w Q q
  obtain ⟨x, e1, hx, rfl⟩ := isi_inv he
  refine pe_we (pe_callB call_isi (hc.gl hg) (hc.pr.free _ isi_in) isi_boot (pa_cons we_pe (pa_cons (pe_ty hc hg2) pa_nil) (star_ok hk _ _)) (by decide) (by decide) (star_ok hk _ _) rfl) ?_
  refine one ha e1 R w _ fun H' Hf' α' u s1 R1 w1 du => ?_
  refine ⟨u, _, _, _, isTy t x.d, rfl, .ty _, tyx_of (dp_same w1.sub du) hx, kit_is t x.d hx, ?_⟩
  have e : (List.any [t] fun t => isTy t x.d) = isTy t x.d := by simp
  rw [e] at q
  exact giv_f w1 (.bl _) (giv_q s1 R1 q)
theorem paired_ty : ∀ ts : List Ty, Paired ClsV (ts.map fun t => V.ty (tyT t)) (ts.map fun t => Value.type (tyT t))
  | [] => .nil
  | t :: ts => .cons (.ty _) (paired_ty ts)
theorem se_isiT (hc : Cn X G C n sc N) {ts : List Ty} {a : E} {ea : Expr} {es : List Expr} {k : Nat} {p p2 pos : Pos} (ha : SE X C a ea) (hk : kindOk ea = true) (hg : glC sc "isinstance" = true) (hts : tyNames sc ts es = true) (hz : ts.length ≤ 100) :
    SE X C (.isi ts a) (.Call (.Name "isinstance" p) [ea, .Tuple es k p2] [] pos) := by
  intro ρ r ρ' he σ H Hf α τ R w Q q
  obtain ⟨x, e1, hx, rfl⟩ := isi_inv he
  refine pe_we (pe_callB call_isiT (hc.gl hg) (hc.pr.free _ isi_in) isi_boot (pa_cons we_pe (pa_cons (pe_tup wa_pa) pa_nil) (star_ok hk _ _)) (by decide) (by decide) (star_ok hk _ _) rfl) ?_
  refine one ha e1 R w _ fun H' Hf' α' u s1 R1 w1 du => ?_
  refine wa_tys hc hts ⟨?_, fun tp hp => ?_⟩
  · rw [List.length_map]
    exact Nat.le_trans hz (by decide)
  · obtain ⟨nf, np⟩ := w1.fresh hp
    refine ⟨u, tp, _, _, _, ts.any fun t => isTy t x.d, rfl, upd_same, paired_ty ts, tyx_of (dp_same (same_upd hp) (dp_same w1.sub du)) hx, kit_any x.d hx ts, ?_⟩
    have w2 : WR X.K Hf' (upd H' tp (.tup (ts.map fun t => V.ty (tyT t)))) (tr α' ++ τ) := ⟨same_updR w1.sub nf, OA.oks_stay (Same.refl _) w1.ok fun a ha => ⟨upd_ne fun e => np (e ▸ ha), (OA.oks_some w1.ok a ha).2⟩, w1.nd⟩
    exact giv_f w2 (.bl _) (giv_q s1 R1 q)
end
end PF

/-! PF, seventh part: calls of the text's own defs; lists of one's own read. -/
namespace PF
open PySem PySem.Spec PyProof.Rows L2
/-- the arguments that stand ready -/
inductive AgR (K : PySem.W.Frag) (Hf : Hp) (σ : L2.St) : List Ag → List V → Prop where
  | nil : AgR K Hf σ [] []
  | va {d : D} {r : List Ag} {v : V} {vs : List V} : Dp K Hf v d → AgR K Hf σ r vs → AgR K Hf σ (.inl (.fz d) :: r) (v :: vs)
  | io {i : Nat} {r : List Ag} {v : V} {vs : List V} : σ[i]? = some (some v) → AgR K Hf σ r vs → AgR K Hf σ (.inr i :: r) (v :: vs)
theorem AgR.mono {K : PySem.W.Frag} {Hf Hf' : Hp} {σ : L2.St} (s : Same Hf Hf') : ∀ {xs : List Ag} {vs : List V}, AgR K Hf σ xs vs → AgR K Hf' σ xs vs
  | _, _, .nil => .nil
  | _, _, .va h t => .va (dp_same s h) (t.mono s)
  | _, _, .io h t => .io h (t.mono s)
def SA (X : Cx) (C : Ctx) (ir : As) (es : List Expr) : Prop := ∀ (ρ : Env) (xs : List Ag) (ρ' : Env), evA C ir ρ = some (xs, ρ') → ∀ (σ : L2.St) (H Hf : Hp) (α : An) (τ : List OA), Rel σ ρ α → WR X.K Hf H (tr α ++ τ) → ∀ Q : List V → Hp → Prop,
  (∀ (H' Hf' : Hp) (α' : An) (vs : List V), Same Hf Hf' → Rel σ ρ' α' → WR X.K Hf' H' (tr α' ++ τ) → AgR X.K Hf' σ xs vs → Q vs H') → WA X es σ H Q
def As.pos : As → Nat → List Nat
  | .nil, _ => []
  | .ev _ as, k => as.pos (k + 1)
  | .io _ as, k => k :: as.pos (k + 1)
def posOf : List Ag → Nat → List Nat
  | [], _ => []
  | .inl _ :: r, k => posOf r (k + 1)
  | .inr _ :: r, k => k :: posOf r (k + 1)
theorem pos_eq {C : Ctx} : ∀ {as : As} {ρ ρ' : Env} {xs : List Ag} (k : Nat), evA C as ρ = some (xs, ρ') → posOf xs k = as.pos k
  | .nil, _, _, _, _, h => by cases h; rfl
  | .ev e as, ρ, ρ', xs, k, h => by
    obtain ⟨x, ρ1, e1, h⟩ := bd_inv h
    obtain ⟨ys, ρ2, e2, h⟩ := bd_inv h
    cases h
    exact pos_eq (k + 1) e2
  | .io i as, ρ, ρ', xs, k, h => by
    obtain ⟨x, e1, h⟩ := b1_inv h
    obtain ⟨ys, ρ2, e2, h⟩ := bd_inv h
    obtain ⟨e3, h⟩ := gd_inv h
    cases h
    show k :: posOf ys (k + 1) = k :: as.pos (k + 1)
    rw [pos_eq (k + 1) e2]
theorem slots_nd {C : Ctx} : ∀ {as : As} {ρ ρ' : Env} {xs : List Ag}, evA C as ρ = some (xs, ρ') → (slotsOf xs).Nodup
  | .nil, _, _, _, h => by cases h; exact List.nodup_nil
  | .ev e as, ρ, ρ', xs, h => by
    obtain ⟨x, ρ1, e1, h⟩ := bd_inv h
    obtain ⟨ys, ρ2, e2, h⟩ := bd_inv h
    cases h
    exact slots_nd (xs := ys) e2
  | .io i as, ρ, ρ', xs, h => by
    obtain ⟨x, e1, h⟩ := b1_inv h
    obtain ⟨ys, ρ2, e2, h⟩ := bd_inv h
    obtain ⟨e3, h⟩ := gd_inv h
    cases h
    exact List.nodup_cons.mpr ⟨of_decide_eq_true e3, slots_nd e2⟩
def wipeA (α : An) : List Nat → An
  | [] => α
  | i :: is => wipeA (α.set i none) is
theorem Rel.wipe {σ : L2.St} : ∀ {is : List Nat} {ρ : Env} {α : An}, Rel σ ρ α → Rel σ (wipeE ρ is) (wipeA α is)
  | [], _, _, r => r
  | i :: is, _, _, r => Rel.wipe (is := is) (r.drop i)
section
variable {X : Cx} {G : Prg} {C : Ctx} {n : Nat} {sc : Scope} {N : List Str}
theorem sa_nil : SA X C .nil [] := by
  intro ρ xs ρ' he σ H Hf α τ R w Q q
  cases he
  exact pa_wa pa_nil (q H Hf α [] (Same.refl _) R w .nil)
theorem sa_ev {a : E} {as : As} {ea : Expr} {es : List Expr} (ha : SE X C a ea) (hs : SA X C as es) (hk : kindOk ea = true) : SA X C (.ev a as) (ea :: es) := by
  intro ρ xs ρ' he σ H Hf α τ R w Q q
  obtain ⟨x, ρ1, e1, he⟩ := bd_inv he
  obtain ⟨ys, ρ2, e2, he⟩ := bd_inv he
  cases he
  refine pa_wa (pa_cons we_pe wa_pa (star_ok hk _ _)) ?_
  refine one ha e1 R w _ fun H1 Hf1 α1 u s1 R1 w1 du => ?_
  refine hs ρ1 ys _ e2 σ H1 Hf1 α1 τ R1 w1 _ fun H2 Hf2 α2 vs s2 R2 w2 hg => ?_
  exact q H2 Hf2 α2 (u :: vs) (s1.trans s2) R2 w2 (.va (dp_same s2 du) hg)
theorem sa_io (hc : Cn X G C n sc N) {i : Nat} {as : As} {x : Str} {pos : Pos} {es : List Expr} (hs : SA X C as es) (hi : N[i]? = some x) (hv : visC sc x = true) (ho : okNm x = true) : SA X C (.io i as) (.Name x pos :: es) := by
  intro ρ xs ρ' he σ H Hf α τ R w Q q
  obtain ⟨zs, e1, he⟩ := b1_inv he
  obtain ⟨ys, ρ2, e2, he⟩ := bd_inv he
  obtain ⟨e3, he⟩ := gd_inv he
  cases he
  obtain ⟨y, e4, e5, e6⟩ := R.slot (getL_inv e1)
  refine pa_wa (pa_cons (pe_var (i := i) (by rw [hc.hN]; exact hi) (hc.vis hv) (okNm_inv ho).1 (okNm_inv ho).2) wa_pa rfl) ⟨y.v, e6, ?_⟩
  refine hs ρ ys _ e2 σ H Hf α τ R w _ fun H2 Hf2 α2 vs s2 R2 w2 hg => ?_
  exact q H2 Hf2 α2 (y.v :: vs) s2 R2 w2 (.io e6 hg)
theorem resolve_ne {i : Nat} {o : Option OV} : ∀ {xs : List Ag} {ρ : Env}, i ∉ slotsOf xs → resolve (ρ.set i o) xs = resolve ρ xs
  | [], _, _ => rfl
  | .inl x :: r, ρ, h => by
    show b1 (resolve (ρ.set i o) r) _ = b1 (resolve ρ r) _
    rw [resolve_ne (xs := r) h]
  | .inr j :: r, ρ, h => by
    have h1 : i ≠ j := fun e => h (e ▸ List.mem_cons_self)
    have h2 : i ∉ slotsOf r := fun e => h (List.mem_cons_of_mem _ e)
    show b1 (getL (ρ.set i o) j) _ = b1 (getL ρ j) _
    have e : getL (ρ.set i o) j = getL ρ j := by
      unfold getL
      rw [List.getElem?_set_ne h1]
    rw [e, resolve_ne (xs := r) h2]
/-- the arguments' trees out of the slots -/
theorem give {K : PySem.W.Frag} {H : Hp} {σ : L2.St} : ∀ {xs : List Ag} {vs : List V} {Hf : Hp} {ρ : Env} {α : An} {τ : List OA} {os : List OV}, AgR K Hf σ xs vs → Rel σ ρ α → WR K Hf H (tr α ++ τ) → resolve ρ xs = some os → (slotsOf xs).Nodup →
    ∃ as : List OA, as.map OA.v = vs ∧ OA.os as = os ∧ WR K Hf H (as ++ (tr (wipeA α (slotsOf xs)) ++ τ))
  | _, _, Hf, ρ, α, τ, os, .nil, R, w, h, _ => by
    cases h
    exact ⟨[], rfl, rfl, w⟩
  | _, _, Hf, ρ, α, τ, os, .va (d := d) (r := r) (v := v) (vs := vs) hd t, R, w, h, nd => by
    obtain ⟨os', e1, e2⟩ := b1_inv (show b1 (resolve ρ r) _ = some os from h)
    cases e2
    obtain ⟨as, a1, a2, a3⟩ := give t R w e1 nd
    exact ⟨.fz v d :: as, by rw [List.map_cons, a1]; rfl, by rw [OA.os, a2]; rfl, a3.addF hd⟩
  | _, _, Hf, ρ, α, τ, os, .io (i := i) (r := r) (v := v) (vs := vs) hv t, R, w, h, nd => by
    obtain ⟨ys, e0, h⟩ := b1_inv (show b1 (getL ρ i) _ = some os from h)
    obtain ⟨os', e1, e2⟩ := b1_inv (show b1 (resolve ρ r) _ = some os from h)
    cases e2
    obtain ⟨n1, n2⟩ := List.nodup_cons.mp (show (i :: slotsOf r).Nodup from nd)
    obtain ⟨x, x1, x2, x3⟩ := R.slot (getL_inv e0)
    have w1 := w.takeS x1
    obtain ⟨as, a1, a2, a3⟩ := give (τ := x :: τ) t (R.drop i) (w1.perm perm_mid.symm) (by rw [resolve_ne n1]; exact e1) n2
    refine ⟨x :: as, ?_, ?_, ?_⟩
    · rw [List.map_cons, a1]
      rw [hv] at x3
      have e : v = x.v := by simpa using x3
      rw [e]
    · rw [OA.os, a2, x2]
    · refine a3.perm ?_
      rw [List.cons_append, ← List.append_assoc, ← List.append_assoc]
      exact perm_mid
/-- .. and back -/
theorem takeBack {K : PySem.W.Frag} {Hf H : Hp} {σ : L2.St} {τ : List OA} : ∀ {is : List Nat} {bs : List OA} {ρ ρ2 : Env} {α : An}, putBack is (OA.os bs) ρ = some ρ2 → Rel σ ρ α → WR K Hf H (bs ++ (tr α ++ τ)) → (∀ (k i : Nat) (b : OA), is[k]? = some i → bs[k]? = some b → σ[i]? = some (some b.v)) →
    ∃ α2, Rel σ ρ2 α2 ∧ WR K Hf H (tr α2 ++ τ)
  | [], [], ρ, ρ2, α, h, R, w, _ => by
    cases h
    exact ⟨α, R, w⟩
  | [], b :: bs, ρ, ρ2, α, h, R, w, _ => by cases h
  | i :: is, [], ρ, ρ2, α, h, R, w, _ => by cases h
  | i :: is, b :: bs, ρ, ρ2, α, h, R, w, k => by
    have hv := k 0 i b rfl rfl
    have R1 := R.set i b
    rw [set_id hv] at R1
    have w1 : WR K Hf H (b :: (tr α ++ (bs ++ τ))) := w.perm (by
      rw [List.cons_append]
      refine List.Perm.cons b ?_
      rw [← List.append_assoc, ← List.append_assoc]
      exact List.Perm.append_right τ List.perm_append_comm)
    have w2 := w1.store (i := i)
    have w3 : WR K Hf H (bs ++ (tr (α.set i (some b)) ++ τ)) := w2.perm (by
      rw [← List.append_assoc, ← List.append_assoc]
      exact List.Perm.append_right τ List.perm_append_comm)
    exact takeBack (is := is) (bs := bs) h R1 w3 fun m j c h1 h2 => k (m + 1) j c (by simpa using h1) (by simpa using h2)
theorem io_vals {K : PySem.W.Frag} {Hf : Hp} {σ : L2.St} : ∀ {xs : List Ag} {vs pre : List V}, AgR K Hf σ xs vs → ∀ (k i : Nat) (v : V), (slotsOf xs)[k]? = some i → (ioV (posOf xs pre.length) (pre ++ vs))[k]? = some v → σ[i]? = some (some v)
  | _, _, pre, .nil, k, i, v, h, _ => by simp [slotsOf] at h
  | _, _, pre, .va (d := d) (r := r) (v := u) (vs := vs) hd t, k, i, v, h, g => by
    have e : pre ++ u :: vs = (pre ++ [u]) ++ vs := by simp
    have g : (ioV (posOf r (pre.length + 1)) (pre ++ u :: vs))[k]? = some v := g
    rw [e] at g
    exact io_vals (pre := pre ++ [u]) t k i v h (by simpa using g)
  | _, _, pre, .io (i := j) (r := r) (v := u) (vs := vs) hv t, k, i, v, h, g => by
    have e : pre ++ u :: vs = (pre ++ [u]) ++ vs := by simp
    have e0 : (pre ++ u :: vs)[pre.length]? = some u := by simp
    have g : (ioV (pre.length :: posOf r (pre.length + 1)) (pre ++ u :: vs))[k]? = some v := g
    unfold ioV at g
    rw [List.filterMap_cons, e0] at g
    cases k with
    | zero =>
      have e1 : u = v := by simpa using g
      have e2 : j = i := by simpa [slotsOf] using h
      rw [← e1, ← e2]
      exact hv
    | succ k =>
      have g2 : (ioV (posOf r (pre.length + 1)) (pre ++ u :: vs))[k]? = some v := by simpa [ioV] using g
      rw [e] at g2
      exact io_vals (pre := pre ++ [u]) t k i v (by simpa [slotsOf] using h) (by simpa using g2)
theorem pass_cn {X : Cx} : Passes L2.CX0 X L2.E0 := fun _ _ _ _ _ _ _ h => h.elim
theorem se_call (hc : Cn X G C n sc N) {g : Nat} {as : As} {f : Fn} {ps : List Str} {x : Str} {p pos : Pos} {e : Expr} {es : List Expr} (hs : SA X C as (e :: es)) (hn : G.names[g]? = some x) (hp : G.pars[g]? = some ps) (hf : G.fns[g]? = some f) (hio : as.pos 0 = f.io)
    (hgl : glC sc x = true) (ho : okNm x = true) (hk : kindOks (e :: es) = true) : SE X C (.call g as) (.Call (.Name x p) (e :: es) [] pos) := by
  intro ρ r ρ' he σ H Hf α τ R w Q q
  obtain ⟨xs, ρ1, e1, he⟩ := bd_inv he
  obtain ⟨os, e2, he⟩ := b1_inv he
  obtain ⟨r', outs, e3, he⟩ := bd_inv he
  obtain ⟨ρ2, e4, he⟩ := b1_inv he
  cases he
  obtain ⟨fa, fd, m1, m2, m3, m4, _⟩ := hc.pr.fn g x ps f hn hp hf
  have z := Bool.and_eq_true_iff.mp (show (kindOk e && es.all kindOk) = true from hk)
  refine pe_we (pe_posG m4 hc.gu hc.room (hc.gl hgl) m1 m2 m3 wa_pa (okNm_inv ho).1 (star_ok z.1 _ _) (stars_any z.2)) ?_
  refine hs ρ xs ρ1 e1 σ H Hf α τ R w _ fun H1 Hf1 α1 vs s1 R1 w1 ag => ?_
  obtain ⟨ts, t1, t2, t3⟩ := give ag R1 w1 e2 (slots_nd e1)
  have hlen : vs.length = f.np := by
    rw [← t1, List.length_map, ← os_len, t2]
    exact hc.pr.ln g f os _ hf e3
  refine ⟨Hf1, ts, tr (wipeA α1 (slotsOf xs)) ++ τ, r, outs, t1, hlen, t3, by rw [t2]; exact e3, fun H2 Hf2 y bs s2 ey eb vb w2 => ?_⟩
  rw [← eb] at e4
  obtain ⟨α2, R2, w3⟩ := takeBack (τ := y :: τ) e4 (R1.wipe (is := slotsOf xs)) (w2.perm (by
    rw [← List.append_assoc bs, ← List.append_assoc bs]
    exact perm_mid.symm)) fun k i b h1 h2 => by
      refine io_vals (pre := []) ag k i b.v h1 ?_
      show (ioV (posOf xs 0) vs)[k]? = _
      rw [pos_eq 0 e1, hio, ← vb, List.getElem?_map, h2]
      rfl
  exact q H2 Hf2 α2 y (s1.trans s2) R2 ey (w3.perm perm_mid)
/-! ### calls by keywords -/
def SK (X : Cx) (C : Ctx) (ir : Es) (ks : List Keyword) : Prop := ∀ (ρ : Env) (r : List OV) (ρ' : Env), evEs C ir ρ = some (r, ρ') → ∀ (σ : L2.St) (H Hf : Hp) (α : An) (τ : List OA), Rel σ ρ α → WR X.K Hf H (tr α ++ τ) → ∀ Q : List V → Hp → Prop,
  (∀ (H' Hf' : Hp) (α' : An) (vs : List V), Same Hf Hf' → Rel σ ρ' α' → WR X.K Hf' H' (tr α' ++ τ) → DpAll X.K Hf' vs (OV.ds r) → Q vs H') → WK X ks σ H Q
theorem sk_nil : SK X C .nil [] := by
  intro ρ r ρ' he σ H Hf α τ R w Q q
  cases he
  exact pk_wk pk_nil (q H Hf α [] (Same.refl _) R w .nil)
theorem sk_cons {a : E} {as : Es} {ea : Expr} {nm : Option Str} {kp : Pos} {ks : List Keyword} (ha : SE X C a ea) (hs : SK X C as ks) : SK X C (.cons a as) (⟨nm, ea, kp⟩ :: ks) := by
  intro ρ xs ρ' he σ H Hf α τ R w Q q
  obtain ⟨x, ρ1, e1, he⟩ := bd_inv he
  obtain ⟨ys, ρ2, e2, he⟩ := bd_inv he
  cases he
  refine pk_wk (pk_cons we_pe wk_pk) ?_
  refine one ha e1 R w _ fun H1 Hf1 α1 u s1 R1 w1 du => ?_
  refine hs ρ1 ys _ e2 σ H1 Hf1 α1 τ R1 w1 _ fun H2 Hf2 α2 vs s2 R2 w2 hg => ?_
  exact q H2 Hf2 α2 (u :: vs) (s1.trans s2) R2 w2 (.cons (dp_same s2 du) hg)
def kwNames : List Keyword → List Str
  | [] => []
  | ⟨some x, _, _⟩ :: r => x :: kwNames r
  | ⟨none, _, _⟩ :: r => kwNames r
def kwAll : List Keyword → Bool
  | [] => true
  | ⟨some _, _, _⟩ :: r => kwAll r
  | ⟨none, _, _⟩ :: _ => false
theorem kw_facts {pos : Pos} {env : PySem.Env} : ∀ {ks : List Keyword}, kwAll ks = true → (backToKw pos (keywordEach ks env)).all (·.1.isSome) = true ∧ (backToKw pos (keywordEach ks env)).filterMap (·.1) = kwNames ks ∧ (backToKw pos (keywordEach ks env)).any (·.1.isNone) = false
  | [], _ => ⟨rfl, rfl, rfl⟩
  | ⟨some x, v, p⟩ :: r, h => by
    obtain ⟨a, b, c⟩ := kw_facts (pos := pos) (env := env) (ks := r) h
    refine ⟨?_, ?_, ?_⟩
    · show (true && (backToKw pos (keywordEach r env)).all (·.1.isSome)) = true
      rw [a]; rfl
    · show x :: (backToKw pos (keywordEach r env)).filterMap (·.1) = x :: kwNames r
      rw [b]
    · show (false || (backToKw pos (keywordEach r env)).any (·.1.isNone)) = false
      rw [c]; rfl
  | ⟨none, v, p⟩ :: r, h => by cases h
theorem perm_trees {K : PySem.W.Frag} {Hf H : Hp} {T : List OA} {vs : List V} {xs : List OV} (h : DpAll K Hf vs (OV.ds xs)) (w : WR K Hf H T) : ∀ {perm : List Nat} {os : List OV}, permD perm xs = some os →
    ∃ as : List OA, as.map OA.v = (perm.filterMap fun i => vs[i]?) ∧ OA.os as = fzs (OV.ds os) ∧ WR K Hf H (as ++ T)
  | [], os, e => by
    cases e
    exact ⟨[], rfl, rfl, w⟩
  | i :: is, os, e => by
    obtain ⟨o, e1, e⟩ := b1_inv (show b1 xs[i]? _ = some os from e)
    obtain ⟨r, e2, e⟩ := b1_inv (show b1 (permD is xs) _ = some os from e)
    cases e
    obtain ⟨as, a1, a2, a3⟩ := perm_trees h w e2
    have ed : (OV.ds xs)[i]? = some o.d := by rw [OV.ds_map, List.getElem?_map, e1]; rfl
    obtain ⟨v, v1, v2⟩ := dpa_get h ed
    refine ⟨.fz v o.d :: as, ?_, ?_, a3.addF v2⟩
    · rw [List.map_cons, a1, List.filterMap_cons, v1]
      rfl
    · rw [OA.os, a2]
      rfl
theorem vals_perm : ∀ {zs : List V} {ws : List Value} (perm : List Nat), Vals zs ws → Vals (perm.filterMap fun i => zs[i]?) (perm.filterMap fun i => ws[i]?)
  | zs, ws, [], h => .nil
  | zs, ws, i :: is, h => by
    rw [List.filterMap_cons, List.filterMap_cons]
    cases e : zs[i]? with
    | none =>
      rw [Vals.none_of h e]
      exact vals_perm is h
    | some v =>
      obtain ⟨u, e2, r⟩ := Vals.get h e
      rw [e2]
      exact .cons r (vals_perm is h)
theorem se_callk (hc : Cn X G C n sc N) {g : Nat} {es : Es} {f : Fn} {ps : List Str} {perm : List Nat} {x : Str} {p pos : Pos} {ks : List Keyword} (hs : SK X C es ks) (hn : G.names[g]? = some x) (hp : G.pars[g]? = some ps) (hf : G.fns[g]? = some f) (hio : f.io = [])
    (hkw : (g, kwNames ks, perm) ∈ G.kws) (hka : kwAll ks = true) (hgl : glC sc x = true) (ho : okNm x = true) : SE X C (.callk g es perm) (.Call (.Name x p) [] ks pos) := by
  intro ρ r ρ' he σ H Hf α τ R w Q q
  obtain ⟨xs, ρ1, e1, he⟩ := bd_inv he
  obtain ⟨os, e2, he⟩ := b1_inv he
  obtain ⟨r', outs, e3, he⟩ := bd_inv he
  cases outs with
  | cons o os => cases he
  | nil =>
    cases he
    obtain ⟨fa, fd, m1, m2, m3, m4, m5⟩ := hc.pr.fn g x ps f hn hp hf
    obtain ⟨k1, k2, k3⟩ := kw_facts (pos := pos) (env := X.env) hka
    intro pins s I
    refine wpAny_Call_Name_kw (ld_glob I (hc.gl hgl) m1 ?_ (okNm_inv ho).1)
    refine PySem.W.callWith_KW0 (h₀ := X.base) I.ok.mod.kin m2 k1 ?_ (by rw [k3]; rfl)
    have key : WK X ks σ H fun zs H1 => spF X.K (C.call g) f (perm.filterMap fun i => zs[i]?) H1 Q L2.E0 := by
      refine hs ρ xs _ e1 σ H Hf α τ R w _ fun H1 Hf1 α1 vs s1 R1 w1 ag => ?_
      obtain ⟨ts, t1, t2, t3⟩ := perm_trees ag w1 e2
      refine ⟨Hf1, ts, tr α1 ++ τ, r, [], t1, ?_, t3, by rw [t2]; exact e3, fun H2 Hf2 y bs s2 ey eb vb w2 => ?_⟩
      · rw [← t1, List.length_map, ← os_len, t2]
        exact hc.pr.ln g f _ _ hf e3
      · cases bs with
        | nil => exact q H2 Hf2 α1 y (s1.trans s2) R1 ey w2
        | cons b bs => cases eb
    refine thn (key pos pins s I) fun ws s2 ⟨zs, H2, I2, rz, q2⟩ => ⟨I2.kIn, ?_⟩
    rw [k2]
    have r2 := vals_perm perm rz
    have hl : (perm.filterMap fun i => ws[i]?).length = ps.length := by rw [← r2.length]; exact m4.len _ _ _ _ q2
    exact wpAny_call (codeAny_mono (m4.at_ hc.gu hc.room I2 (m5 _ _ hkw s2 ws hl) r2 q2) fun res s' ⟨u, e, h⟩ => by subst e; exact h)
/-! ### lists of one's own, read -/
theorem os_at : ∀ {ys : List OA} {j : Nat} {o : OV}, (OA.os ys)[j]? = some o → ∃ y, ys[j]? = some y ∧ y.o = o
  | [], _, _, h => by simp [OA.os] at h
  | y :: ys, 0, o, h => ⟨y, rfl, by simpa [OA.os] using h⟩
  | y :: ys, j + 1, o, h => by
    obtain ⟨z, a, b⟩ := os_at (ys := ys) (j := j) (o := o) (by simpa [OA.os] using h)
    exact ⟨z, by simpa using a, b⟩
theorem oks_at {K : PySem.W.Frag} {Hf H : Hp} {ys : List OA} {j : Nat} {y : OA} (h : OA.oks K Hf H ys) (e : ys[j]? = some y) : y.ok K Hf H := OA.oks_all.mp h y (List.mem_of_getElem? e)
theorem at_tree {ys : List OA} {k : Int} {o : OV} (h : atD (OA.os ys) k = some o) : ∃ y, atI (ys.map OA.v) k = some y.v ∧ y.o = o ∧ y ∈ ys := by
  unfold atD at h
  rw [os_len] at h
  obtain ⟨j, e1, e2⟩ := b1_inv h
  obtain ⟨y, a, b⟩ := os_at e2
  refine ⟨y, ?_, b, List.mem_of_getElem? a⟩
  rw [← atD_eq]
  unfold atD
  rw [List.length_map, e1]
  show (ys.map OA.v)[j]? = _
  rw [List.getElem?_map, a]
  rfl
theorem se_idxO (hc : Cn X G C n sc N) {i : Nat} {b : E} {x : Str} {p pos : Pos} {eb : Expr} (hb : SE X C b eb) (hk : kindOk eb = true) (hi : N[i]? = some x) (hv : visC sc x = true) (ho : okNm x = true) : SE X C (.idxO i b) (.Subscript (.Name x p) eb pos) := by
  intro ρ r ρ' he σ H Hf α τ R w Q q
  obtain ⟨zs, e0, he⟩ := b1_inv he
  obtain ⟨y, ρ1, e1, he⟩ := bd_inv he
  obtain ⟨xs, e2, he⟩ := b1_inv he
  obtain ⟨t0, f1, f2, f3⟩ := R.slot (getL_inv e0)
  cases hy : y.d with
  | int k =>
    rw [hy] at he
    obtain ⟨o, e3, he⟩ := b1_inv (show b1 (atD xs k) _ = some (r, ρ') from he)
    cases o with
    | fz d =>
      cases he
      refine pe_we (pe_ix ix_list (pe_var (i := i) (by rw [hc.hN]; exact hi) (hc.vis hv) (okNm_inv ho).1 (okNm_inv ho).2) we_pe (plain_ix hk)) ⟨t0.v, f3, ?_⟩
      refine one hb e1 R w _ fun H1 Hf1 α1 u s1 R1 w1 du => ?_
      obtain ⟨t, g1, g2, g3⟩ := R1.slot (getL_inv e2)
      obtain ⟨a, ys, rfl, g4⟩ := oa_ol g2
      rw [f3] at g3
      have ev : t0.v = .ref a := Option.some.inj (Option.some.inj g3)
      have w2 := w1.takeS g1
      rw [← g4] at e3
      obtain ⟨z, z1, z2, z3⟩ := at_tree e3
      obtain ⟨v, rfl⟩ := oa_fz z2
      have dz : Dp X.K Hf1 v d := OA.oks_all.mp w2.ok.1.2.2 _ z3
      rw [hy] at du
      refine ⟨a, ys.map OA.v, k, v, ev, dp_int du, SqL.of w2.ok.1.1, z1, ?_⟩
      exact giv_f w1 dz (giv_q s1 R1 q)
    | ol o => cases he
    | ot o => cases he
  | _ => rw [hy] at he; cases he
theorem se_lenO (hc : Cn X G C n sc N) {i : Nat} {x : Str} {p p2 pos : Pos} (hg : glC sc "len" = true) (hi : N[i]? = some x) (hv : visC sc x = true) (ho : okNm x = true) : SE X C (.lenO i) (.Call (.Name "len" p) [.Name x p2] [] pos) := by
  intro ρ r ρ' he σ H Hf α τ R w Q q
  obtain ⟨xs, e0, he⟩ := b1_inv he
  cases he
  obtain ⟨t, g1, g2, g3⟩ := R.slot (getL_inv e0)
  obtain ⟨a, ys, rfl, g4⟩ := oa_ol g2
  refine pe_we (pe_callB call_len_seq (hc.gl hg) (hc.pr.free _ (blt_in .len)) (blt_boot .len) (pa_cons (pe_var (i := i) (by rw [hc.hN]; exact hi) (hc.vis hv) (okNm_inv ho).1 (okNm_inv ho).2) pa_nil) (by decide) (by decide) rfl rfl) ⟨_, g3, ?_⟩
  have w2 := w.takeS g1
  refine ⟨a, ys.map OA.v, rfl, .inl (SqL.of w2.ok.1.1), ?_⟩
  rw [List.length_map, ← os_len, g4]
  exact giv_f w (.int _) (giv_q (Same.refl _) R q)
theorem se_mv (hc : Cn X G C n sc N) {i : Nat} {x : Str} {p : Pos} (hi : N[i]? = some x) (hv : visC sc x = true) (ho : okNm x = true) : SE X C (.mv i) (.Name x p) := by
  intro ρ r ρ' he σ H Hf α τ R w Q q
  obtain ⟨o, e0, he⟩ := b1_inv he
  cases he
  obtain ⟨t, g1, g2, g3⟩ := R.slot (get_inv e0)
  refine pe_we (pe_var (i := i) (by rw [hc.hN]; exact hi) (hc.vis hv) (okNm_inv ho).1 (okNm_inv ho).2) ⟨_, g3, ?_⟩
  exact q H Hf _ t (Same.refl _) (R.drop i) g2 (w.takeS g1)
theorem len_set (α : An) (i : Nat) (o : Option OA) : (α.set i o).length = α.length := List.length_set
/-- a tree that stood aside comes back to its slot -/
theorem Rel.back {σ : L2.St} {ρ : Env} {α : An} {i : Nat} {t : OA} (R : Rel σ ρ α) (hv : σ[i]? = some (some t.v)) : Rel σ (ρ.set i (some t.o)) (α.set i (some t)) := by
  have := R.set i t
  rw [set_id hv] at this
  exact this
theorem se_idxOO (hc : Cn X G C n sc N) {i : Nat} {b c : E} {x : Str} {p p2 pos : Pos} {eb ec : Expr} (hb : SE X C b eb) (hcc : SE X C c ec) (hk : kindOk eb = true) (hk2 : kindOk ec = true) (hi : N[i]? = some x) (hv : visC sc x = true) (ho : okNm x = true) :
    SE X C (.idxOO i b c) (.Subscript (.Subscript (.Name x p) eb p2) ec pos) := by
  intro ρ r ρ' he σ H Hf α τ R w Q q
  obtain ⟨zs, e0, he⟩ := b1_inv he
  obtain ⟨y, ρ1, e1, he⟩ := bd_inv he
  obtain ⟨xs, e2, he⟩ := b1_inv he
  obtain ⟨t0, f1, f2, f3⟩ := R.slot (getL_inv e0)
  cases hy : y.d with
  | int k =>
    rw [hy] at he
    obtain ⟨o, e3, he⟩ := b1_inv (show b1 (atD xs k) _ = some (r, ρ') from he)
    cases o with
    | ol ys =>
      obtain ⟨z, ρ2, e4, he⟩ := bd_inv (show bd (evE C c (ρ1.set i none)) _ = some (r, ρ') from he)
      cases hz : z.d with
      | int l =>
        rw [hz] at he
        obtain ⟨o2, e5, he⟩ := b1_inv (show b1 (atD ys l) _ = some (r, ρ') from he)
        cases o2 with
        | fz d =>
          cases he
          refine pe_we (pe_ix ix_list (pe_ix ix_list (pe_var (i := i) (by rw [hc.hN]; exact hi) (hc.vis hv) (okNm_inv ho).1 (okNm_inv ho).2) we_pe (plain_ix hk)) we_pe (plain_ix hk2)) ⟨t0.v, f3, ?_⟩
          refine one hb e1 R w _ fun H1 Hf1 α1 u s1 R1 w1 du => ?_
          obtain ⟨t, g1, g2, g3⟩ := R1.slot (getL_inv e2)
          obtain ⟨a, as, rfl, g4⟩ := oa_ol g2
          have ev : t0.v = .ref a := by
            rw [f3] at g3
            exact Option.some.inj (Option.some.inj g3)
          have w2 := w1.takeS g1
          rw [← g4] at e3
          obtain ⟨row, z1, z2, z3⟩ := at_tree e3
          obtain ⟨ra, rs, rfl, z4⟩ := oa_ol z2
          rw [hy] at du
          refine ⟨a, as.map OA.v, k, .ref ra, ev, dp_int du, SqL.of w2.ok.1.1, z1, ?_⟩
          refine one hcc e4 (R1.drop i) (w2.perm perm_mid.symm) _ fun H2 Hf2 α2 u2 s2 R2 w3 dz => ?_
          have w4 : WR X.K Hf2 H2 (.ol a as :: (tr α2 ++ τ)) := w3.perm perm_mid
          rw [hz] at dz
          have okr : (OA.ol ra rs).ok X.K Hf2 H2 := OA.oks_all.mp w4.ok.1.2.2 _ z3
          rw [← z4] at e5
          obtain ⟨cell, c1, c2, c3⟩ := at_tree e5
          obtain ⟨v, rfl⟩ := oa_fz c2
          have dv : Dp X.K Hf2 v d := OA.oks_all.mp okr.2.2 _ c3
          refine ⟨ra, rs.map OA.v, l, v, rfl, dp_int dz, SqL.of okr.1, c1, ?_⟩
          have R3 := R2.back (i := i) (t := .ol a as) g3
          have e6 : (OA.ol a as).o = .ol xs := g2
          rw [e6] at R3
          exact q H2 Hf2 _ (.fz v d) (s1.trans s2) R3 rfl (w4.store.addF dv)
        | ol o => cases he
        | ot o => cases he
      | _ => rw [hz] at he; cases he
    | fz o => cases he
    | ot o => cases he
  | _ => rw [hy] at he; cases he
end
end PF

/-! PF: zip of a list or a tuple and a list or a tuple. -/
namespace PF
open PySem PySem.Spec PyProof.Rows L2
/-- a list (true) or a tuple (false) -/
def SqM (b : Bool) (K : PySem.W.Frag) (H : Hp) (a : Addr) (xs : List V) : Prop := match b with
  | true => SqL K H a xs
  | false => SqT K H a xs
def ItM (b : Bool) (h : Heap) (it l : Addr) (i : Nat) : Prop := match b with
  | true => h.IsListIter it l i
  | false => h.IsTupleIter it l i
def ObM (b : Bool) (h : Heap) (l : Addr) (items : Array Value) : Prop := match b with
  | true => h.IsList l items
  | false => h.IsTuple l items
def itO (b : Bool) (l : Addr) : Obj := match b with
  | true => { cls := .type "list_iterator", data := .fields #[.ref l, .int 0 0] }
  | false => { cls := .type "tuple_iterator", data := .fields #[.ref l, .int 0 0] }
theorem drawM {prog : Program} {w : World} {A : Around} (b : Bool) (hh : A.handled = none) (it l : Addr) (hne : l ≠ it) (items : Array Value) :
    Draws prog w A it [it, l] items.size (fun i v => items[i]? = some v) (fun i h => ItM b h it l i ∧ ObM b h l items) := by
  cases b with
  | true => exact Draws.list hh it l hne items
  | false => exact Draws.tuple hh it l hne items
theorem beginM (b : Bool) (l : Addr) (items : Array Value) : Begins (.ref l) (itO b l) fun h => ObM b h l items := by
  cases b with
  | true => exact begins_list l items
  | false => exact begins_tuple l items
theorem itM_0 {b : Bool} {h : Heap} {it l : Addr} (e : h.get? it = some (itO b l)) : ItM b h it l 0 := by
  cases b <;> exact ⟨_, e, rfl, rfl⟩
theorem itM_obj {b : Bool} {h : Heap} {it l : Addr} {i : Nat} (e : ItM b h it l i) : ∃ o, h.get? it = some o ∧ ∀ v, o.data ≠ .cell v := by
  cases b with
  | true =>
    obtain ⟨o, e1, _, d1⟩ := e
    exact ⟨o, e1, fun v q => by rw [d1] at q; cases q⟩
  | false =>
    obtain ⟨o, e1, _, d1⟩ := e
    exact ⟨o, e1, fun v q => by rw [d1] at q; cases q⟩
theorem itM_at {b : Bool} {h h' : Heap} {it l : Addr} {i : Nat} (e : ItM b h it l i) (k : ∀ o, h.get? it = some o → h'.get? it = some o) : ItM b h' it l i := by
  cases b with
  | true => exact Heap.IsListIter.at e k
  | false => exact Heap.IsTupleIter.at e k
section
variable {X : Cx} {pins : List (Addr × Obj)} {σ : L2.St} {H : Hp} {s : Shared}
theorem inv_sqM {b : Bool} {a : Addr} {xs : List V} (I : Inv X pins σ H s) (h : SqM b X.K H a xs) : ∃ its, Vals xs its ∧ ObM b s.heap a its.toArray ∧ a < s.heap.objs.size := by
  cases b with
  | true =>
    obtain ⟨its, rv, p, _⟩ := I.list h
    exact ⟨its, rv, p.isList, p.lt⟩
  | false =>
    obtain ⟨its, rv, p, _⟩ := I.tuple h
    obtain ⟨o, ho, _⟩ := id p
    exact ⟨its, rv, p, Heap.lt_size ho⟩
theorem inj_sqM {b : Bool} {a : Addr} {xs ys : List V} (I : Inv X pins σ H s) (h : SqM b X.K H a xs) (g : SqM b X.K H a ys) : xs = ys := by
  cases b with
  | true => exact I.list_inj h g
  | false => exact I.tuple_inj h g
end
/-- two of them, as they stand at each turn, the items in new pairs -/
def ItzM (b1 b2 : Bool) (K : PySem.W.Frag) (a b : Addr) : L2.It where
  go i H := ∃ (xs ys : List V) (x y : V), SqM b1 K H a xs ∧ SqM b2 K H b ys ∧ xs[i]? = some x ∧ ys[i]? = some y
  yld i H v H' := ∃ T x y, v = .ref T ∧ H T = none ∧ H' = upd H T (.tup [x, y]) ∧ (∀ xs, SqM b1 K H a xs → xs[i]? = some x) ∧ ∀ ys, SqM b2 K H b ys → ys[i]? = some y
  stop i H := ∃ xs ys : List V, SqM b1 K H a xs ∧ SqM b2 K H b ys ∧ i ≤ xs.length ∧ i ≤ ys.length ∧ (i = xs.length ∨ i = ys.length)
abbrev Sep (z TI TO i1 i2 a b : Addr) : Prop := ZipSep2 z TI TO i1 i2 [i1, a] [i2, b]
theorem turn_zipM {P : Program} {w : World} {K : PySem.W.Frag} {elts : List Expr} {kk : Nat} {tpos : Pos} {b1 b2 : Bool} {a b z TI TO i1 i2 : Addr} (S : Sep z TI TO i1 i2 a b) (n1 : a ≠ i1) (n2 : b ≠ i2) :
    Turn P w K (.Tuple elts kk tpos) (ItzM b1 b2 K a b) [z, TI, TO, i1, i2] z (fun i h => IsZip h z TI TO .none ∧ IsTupOf2 h TI (.ref i1) (.ref i2) ∧ (∃ x y, IsTupOf2 h TO x y) ∧ ItM b1 h i1 a i ∧ ItM b2 h i2 b i) where
  mem := by simp
  obj := fun i h st c hc => by
    obtain ⟨k1, k2, ⟨x, y, k3⟩, k4, k5⟩ := st
    have m : c = z ∨ c = TI ∨ c = TO ∨ c = i1 ∨ c = i2 := by simpa using hc
    rcases m with rfl | rfl | rfl | rfl | rfl
    · exact ⟨_, k1, fun v q => nomatch q⟩
    · exact ⟨_, k2, fun v q => nomatch q⟩
    · exact ⟨_, k3, fun v q => nomatch q⟩
    · exact itM_obj k4
    · exact itM_obj k5
  keep := fun i h h' st k => by
    obtain ⟨k1, k2, ⟨x, y, k3⟩, k4, k5⟩ := st
    exact ⟨k z (by simp) _ k1, k TI (by simp) _ k2, ⟨x, y, k TO (by simp) _ k3⟩, itM_at k4 fun o q => k i1 (by simp) o q, itM_at k5 fun o q => k i2 (by simp) o q⟩
  item := by
    intro X e1 e2 e3 hc i pins s σ H E I hf st hg
    subst e1 e2 e3
    obtain ⟨k1, k2, ⟨x0, y0, k3⟩, k4, k5⟩ := st
    obtain ⟨xs, ys, x, y, sx, sy, hx, hy⟩ := hg
    obtain ⟨its, rv, p, _⟩ := inv_sqM I sx
    obtain ⟨jts, rw_, p2, _⟩ := inv_sqM I sy
    obtain ⟨u, hu, ru⟩ := rv.get hx
    obtain ⟨u2, hu2, ru2⟩ := rw_.get hy
    have zl : z < s.heap.objs.size := Heap.lt_size k1
    have g1 : its.toArray[i]? = some u := by simpa using hu
    have g2 : jts.toArray[i]? = some u2 := by simpa using hu2
    have l1 : i < its.toArray.size := (Array.getElem?_eq_some_iff.mp g1).1
    have l2 : i < jts.toArray.size := (Array.getElem?_eq_some_iff.mp g2).1
    have hh : X.A.in1.handled = none := I.ok.hd hc
    refine wpAny_pyNext_zipD2_item S (drawM b1 hh i1 a n1 its.toArray) (drawM b2 hh i2 b n2 jts.toArray) k1 k2 k3 ⟨k4, p⟩ ⟨k5, p2⟩ l1 l2 fun v1 v2 h' tk f1 f2 m1 m2 m3 m4 m5 m6 m7 => ?_
    have f1 : v1 = u := Option.some.inj (f1.symm.trans g1)
    have f2 : v2 = u2 := Option.some.inj (f2.symm.trans g2)
    subst f1 f2
    refine ⟨_, rfl, wpAny_letOwnedTupleGo_zip (s := { s with heap := h', toks := tk }) m1 fun h2 r1 sb => ?_⟩
    have t2 : h2.get? s.heap.objs.size = some { cls := .type "tuple", data := .seq #[v1, v2] } := (sb.2 _ (Nat.ne_of_gt zl)).trans m5
    have nw : ObjOk X.prog X.w (upd H s.heap.objs.size (.tup [x, y])) h2 s.heap.objs.size (.tup [x, y]) := ⟨by show 2 ≤ sizeLine; decide, [v1, v2], .cons ru (.cons ru2 .nil), ⟨_, t2, rfl, _, rfl⟩⟩
    have J1 : Inv X pins σ (upd H s.heap.objs.size (.tup [x, y])) { s with heap := h2, toks := tk } :=
      I.turnedNew (ch := [z, TI, TO, i1, i2]) (fun c o hb q => (sb.2 c (fun j => hb (by simp [j]))).trans (m7 c o (fun j => hb (by simp [j])) (fun j => hb (by simp [j])) (fun j => hb (by simp [j])) (fun j => hb (by simp [j])) q)) hf (Nat.le_refl _) nw
    refine ⟨.ref s.heap.objs.size, _, J1, rfl, ⟨_, x, y, rfl, I.hok.fresh (Nat.le_refl _), rfl, fun l hl => by rw [inj_sqM I hl sx]; exact hx, fun l hl => by rw [inj_sqM I hl sy]; exact hy⟩, ⟨r1, ?_, ⟨v1, v2, ?_⟩, ?_, ?_⟩, fun c hcm => ?_⟩
    · exact (sb.2 _ S.TIz).trans (m7 _ _ S.TIz S.TITO S.TIi1 S.TIi2 k2)
    · exact (sb.2 _ S.TOz).trans m2
    · exact itM_at m3.1 fun o q => (sb.2 _ S.zi1.symm).trans q
    · exact itM_at m4.1 fun o q => (sb.2 _ S.zi2.symm).trans q
    · have lt : c < s.heap.objs.size := by
        have m : c = z ∨ c = TI ∨ c = TO ∨ c = i1 ∨ c = i2 := by simpa using hcm
        rcases m with rfl | rfl | rfl | rfl | rfl
        · exact zl
        · exact Heap.lt_size k2
        · exact Heap.lt_size k3
        · obtain ⟨_, e1, _⟩ := itM_obj k4; exact Heap.lt_size e1
        · obtain ⟨_, e2, _⟩ := itM_obj k5; exact Heap.lt_size e2
      rw [upd_ne (Nat.ne_of_lt lt)]
      exact (hf c hcm).1
  done := by
    intro X e1 e2 e3 hc i pins s σ H E I hf st hg
    subst e1 e2 e3
    obtain ⟨k1, k2, ⟨x0, y0, k3⟩, k4, k5⟩ := st
    obtain ⟨xs, ys, sx, sy, j1, j2, je⟩ := hg
    obtain ⟨its, rv, p, _⟩ := inv_sqM I sx
    obtain ⟨jts, rw_, p2, _⟩ := inv_sqM I sy
    have l1 : xs.length = its.toArray.size := by rw [rv.length]; rfl
    have l2 : ys.length = jts.toArray.size := by rw [rw_.length]; rfl
    have hh : X.A.in1.handled = none := I.ok.hd hc
    refine wpAny_pyNext_zipD2_end S (drawM b1 hh i1 a n1 its.toArray) (drawM b2 hh i2 b n2 jts.toArray) k1 k2 k3 ⟨k4, p⟩ ⟨k5, p2⟩ (by omega) (by omega) (by omega) fun h' tk hk => ⟨rfl, I.turnedL (ch := [z, TI, TO, i1, i2]) (fun c o hb q =>
      hk c o (fun j => hb (by simp [j])) (fun j => hb (by simp [j])) (fun j => hb (by simp [j])) (fun j => hb (by simp [j])) q) hf⟩
  self := fun A i s Q E st h => wpAny_pyIter_zip st.1 h
theorem sep_of (n a b : Nat) (ha : a < n) (hb : b < n) : ZipSep2 (n + 4) (n + 2) (n + 3) n (n + 1) [n, a] [n + 1, b] := by
  have e1 : ∀ x y : Nat, x ≠ y → (x : Addr) ≠ y := fun _ _ h => h
  have e2 : ∀ x y z : Nat, x ≠ y → x ≠ z → (x : Addr) ∉ ([y, z] : List Addr) := fun x y z h g m => by
    rcases List.mem_cons.mp m with e | e
    · exact h e
    · exact g (List.mem_singleton.mp e)
  exact ⟨e1 _ _ (by omega), e1 _ _ (by omega), e1 _ _ (by omega), e1 _ _ (by omega), by simp, e2 _ _ _ (by omega) (by omega), e2 _ _ _ (by omega) (by omega), e1 _ _ (by omega), by simp, e2 _ _ _ (by omega) (by omega), e2 _ _ _ (by omega) (by omega), e2 _ _ _ (by omega) (by omega), e2 _ _ _ (by omega) (by omega)⟩
theorem ne_lt {a n : Nat} (h : a < n) : (a : Addr) ≠ n := Nat.ne_of_lt h
def iZipM (b1 b2 : Bool) (K : PySem.W.Frag) (ta : TA) : TI := fun σ H R => ta σ H fun vs H1 => ∃ a b xs ys, vs = [.ref a, .ref b] ∧ SqM b1 K H1 a xs ∧ SqM b2 K H1 b ys ∧ R (ItzM b1 b2 K a b) H1
theorem pi_zipM {X : Cx} {b1 b2 : Bool} {e e2 : Expr} {ta : TA} {p pos tpos : Pos} {elts : List Expr} {kk : Nat} (hg : Gl X "zip") (hm : X.mg "zip" = none) (ha : PA X [e, e2] ta)
    (hs : starEach [e, e2] X.env = (false, eval e X.env) :: starEach [e2] X.env) (hpl : (backTo pos (starEach [e2] X.env)).any (·.1) = false) :
    PI X (.Tuple elts kk tpos) (.Call (.Name "zip" p) [e, e2] [] pos) (iZipM b1 b2 X.K ta) := by
  refine ⟨fun pins s σ H R I h => ?_⟩
  refine Call_ (ld_blt I hg hm PyProof.Rows.boot_zip (PyProof.Rows.callWith_type1 (thn (ha.run pos pins s σ H _ I h) fun us t1 ⟨vs, H1, I1, r1, q1⟩ => ?_) hs hpl))
  obtain ⟨a, b, xs, ys, rfl, sx, sy, q⟩ := q1
  cases r1 with
  | cons r rr =>
    cases rr with
    | cons r' rr =>
      cases rr
      cases r
      cases r'
      obtain ⟨its, rv, p1, la⟩ := inv_sqM I1 sx
      obtain ⟨jts, rw_, p2, lb⟩ := inv_sqM I1 sy
      refine zip_begins2 (beginM b1 a its.toArray) (beginM b2 b jts.toArray) p1 p2 fun h' k1 k2 k3 k4 k5 k6 k7 => wpAny_pyIter_zip k1 ?_
      have J : Inv X pins σ H1 { t1 with heap := h' } := I1.kept (t' := t1.toks) k7
      have S : Sep (t1.heap.objs.size + 4) (t1.heap.objs.size + 2) (t1.heap.objs.size + 3) t1.heap.objs.size (t1.heap.objs.size + 1) a b := sep_of _ a b la lb
      refine ⟨t1.heap.objs.size + 4, [t1.heap.objs.size + 4, t1.heap.objs.size + 2, t1.heap.objs.size + 3, t1.heap.objs.size, t1.heap.objs.size + 1], _, _, H1, rfl, J, turn_zipM S (ne_lt la) (ne_lt (Nat.lt_succ_of_lt lb)), ⟨k1, k2, ⟨_, _, k3⟩, itM_0 k4, itM_0 k5⟩, fun c hcm => ?_, q⟩
      have le : t1.heap.objs.size ≤ c := by
        have m : c = t1.heap.objs.size + 4 ∨ c = t1.heap.objs.size + 2 ∨ c = t1.heap.objs.size + 3 ∨ c = t1.heap.objs.size ∨ c = t1.heap.objs.size + 1 := by simpa using hcm
        rcases m with e | e | e | e | e <;> rw [e] <;> first | exact Nat.le_refl _ | exact Nat.le_add_right _ _
      exact I1.fpOk le (I1.hok.fresh le)
theorem sqM_same {b : Bool} {K : PySem.W.Frag} {H H' : Hp} {a : Addr} {xs : List V} (s : Same H H') (h : SqM b K H a xs) : SqM b K H' a xs := by
  cases b with
  | true => exact Same.seq s h
  | false => exact sqt_same s h
end PF

/-! PF: zip of three, each a list or a tuple. -/
namespace PF
open PySem PySem.Spec PyProof.Rows L2
def ItzM3 (b1 b2 b3 : Bool) (K : PySem.W.Frag) (a b c : Addr) : L2.It where
  go i H := ∃ (xs ys zs : List V) (x y z : V), SqM b1 K H a xs ∧ SqM b2 K H b ys ∧ SqM b3 K H c zs ∧ xs[i]? = some x ∧ ys[i]? = some y ∧ zs[i]? = some z
  yld i H v H' := ∃ T x y z, v = .ref T ∧ H T = none ∧ H' = upd H T (.tup [x, y, z]) ∧ (∀ xs, SqM b1 K H a xs → xs[i]? = some x) ∧ (∀ ys, SqM b2 K H b ys → ys[i]? = some y) ∧ ∀ zs, SqM b3 K H c zs → zs[i]? = some z
  stop i H := ∃ xs ys zs : List V, SqM b1 K H a xs ∧ SqM b2 K H b ys ∧ SqM b3 K H c zs ∧ i ≤ xs.length ∧ i ≤ ys.length ∧ i ≤ zs.length ∧ (i = xs.length ∨ i = ys.length ∨ i = zs.length)
abbrev Sep3 (z TI TO i1 i2 i3 a b c : Addr) : Prop := ZipSep3 z TI TO i1 i2 i3 [i1, a] [i2, b] [i3, c]
theorem turn_zipM3 {P : Program} {w : World} {K : PySem.W.Frag} {elts : List Expr} {kk : Nat} {tpos : Pos} {b1 b2 b3 : Bool} {a b c z TI TO i1 i2 i3 : Addr} (S : Sep3 z TI TO i1 i2 i3 a b c) (n1 : a ≠ i1) (n2 : b ≠ i2) (n3 : c ≠ i3) :
    Turn P w K (.Tuple elts kk tpos) (ItzM3 b1 b2 b3 K a b c) [z, TI, TO, i1, i2, i3] z (fun i h => IsZip h z TI TO .none ∧ IsTupOf3 h TI (.ref i1) (.ref i2) (.ref i3) ∧ (∃ x y u, IsTupOf3 h TO x y u) ∧ ItM b1 h i1 a i ∧ ItM b2 h i2 b i ∧ ItM b3 h i3 c i) where
  mem := by simp
  obj := fun i h st e he => by
    obtain ⟨k1, k2, ⟨x, y, u, k3⟩, k4, k5, k6⟩ := st
    have m : e = z ∨ e = TI ∨ e = TO ∨ e = i1 ∨ e = i2 ∨ e = i3 := by simpa using he
    rcases m with rfl | rfl | rfl | rfl | rfl | rfl
    · exact ⟨_, k1, fun v q => nomatch q⟩
    · exact ⟨_, k2, fun v q => nomatch q⟩
    · exact ⟨_, k3, fun v q => nomatch q⟩
    · exact itM_obj k4
    · exact itM_obj k5
    · exact itM_obj k6
  keep := fun i h h' st k => by
    obtain ⟨k1, k2, ⟨x, y, u, k3⟩, k4, k5, k6⟩ := st
    exact ⟨k z (by simp) _ k1, k TI (by simp) _ k2, ⟨x, y, u, k TO (by simp) _ k3⟩, itM_at k4 fun o q => k i1 (by simp) o q, itM_at k5 fun o q => k i2 (by simp) o q, itM_at k6 fun o q => k i3 (by simp) o q⟩
  item := by
    intro X e1 e2 e3 hc i pins s σ H E I hf st hg
    subst e1 e2 e3
    obtain ⟨k1, k2, ⟨x0, y0, z0, k3⟩, k4, k5, k6⟩ := st
    obtain ⟨xs, ys, zs, x, y, zz, sx, sy, sz, hx, hy, hzz⟩ := hg
    obtain ⟨its, rv, p, _⟩ := inv_sqM I sx
    obtain ⟨jts, rw_, p2, _⟩ := inv_sqM I sy
    obtain ⟨kts, rz_, p3, _⟩ := inv_sqM I sz
    obtain ⟨u, hu, ru⟩ := rv.get hx
    obtain ⟨u2, hu2, ru2⟩ := rw_.get hy
    obtain ⟨u3, hu3, ru3⟩ := rz_.get hzz
    have zl : z < s.heap.objs.size := Heap.lt_size k1
    have g1 : its.toArray[i]? = some u := by simpa using hu
    have g2 : jts.toArray[i]? = some u2 := by simpa using hu2
    have g3 : kts.toArray[i]? = some u3 := by simpa using hu3
    have l1 : i < its.toArray.size := (Array.getElem?_eq_some_iff.mp g1).1
    have l2 : i < jts.toArray.size := (Array.getElem?_eq_some_iff.mp g2).1
    have l3 : i < kts.toArray.size := (Array.getElem?_eq_some_iff.mp g3).1
    have hh : X.A.in1.handled = none := I.ok.hd hc
    refine wpAny_pyNext_zipD3_item S (drawM b1 hh i1 a n1 its.toArray) (drawM b2 hh i2 b n2 jts.toArray) (drawM b3 hh i3 c n3 kts.toArray) k1 k2 k3 ⟨k4, p⟩ ⟨k5, p2⟩ ⟨k6, p3⟩ l1 l2 l3 fun v1 v2 v3 h' tk f1 f2 f3 m1 m2 m3 m4 m4' m5 m6 m7 => ?_
    have f1 : v1 = u := Option.some.inj (f1.symm.trans g1)
    have f2 : v2 = u2 := Option.some.inj (f2.symm.trans g2)
    have f3 : v3 = u3 := Option.some.inj (f3.symm.trans g3)
    subst f1 f2 f3
    refine ⟨_, rfl, wpAny_letOwnedTupleGo_zip (s := { s with heap := h', toks := tk }) m1 fun h2 r1 sb => ?_⟩
    have t2 : h2.get? s.heap.objs.size = some { cls := .type "tuple", data := .seq #[v1, v2, v3] } := (sb.2 _ (Nat.ne_of_gt zl)).trans m5
    have nw : ObjOk X.prog X.w (upd H s.heap.objs.size (.tup [x, y, zz])) h2 s.heap.objs.size (.tup [x, y, zz]) := ⟨by show 3 ≤ sizeLine; decide, [v1, v2, v3], .cons ru (.cons ru2 (.cons ru3 .nil)), ⟨_, t2, rfl, _, rfl⟩⟩
    have J1 : Inv X pins σ (upd H s.heap.objs.size (.tup [x, y, zz])) { s with heap := h2, toks := tk } :=
      I.turnedNew (ch := [z, TI, TO, i1, i2, i3]) (fun e o hb q => (sb.2 e (fun j => hb (by simp [j]))).trans (m7 e o (fun j => hb (by simp [j])) (fun j => hb (by simp [j])) (fun j => hb (by simp [j])) (fun j => hb (by simp [j])) (fun j => hb (by simp [j])) q)) hf (Nat.le_refl _) nw
    refine ⟨.ref s.heap.objs.size, _, J1, rfl, ⟨_, x, y, zz, rfl, I.hok.fresh (Nat.le_refl _), rfl, fun l hl => by rw [inj_sqM I hl sx]; exact hx, fun l hl => by rw [inj_sqM I hl sy]; exact hy, fun l hl => by rw [inj_sqM I hl sz]; exact hzz⟩, ⟨r1, ?_, ⟨v1, v2, v3, ?_⟩, ?_, ?_, ?_⟩, fun e hcm => ?_⟩
    · exact (sb.2 _ S.TIz).trans (m7 _ _ S.TIz S.TITO S.TIi1 S.TIi2 S.TIi3 k2)
    · exact (sb.2 _ S.TOz).trans m2
    · exact itM_at m3.1 fun o q => (sb.2 _ S.zi1.symm).trans q
    · exact itM_at m4.1 fun o q => (sb.2 _ S.zi2.symm).trans q
    · exact itM_at m4'.1 fun o q => (sb.2 _ S.zi3.symm).trans q
    · have lt : e < s.heap.objs.size := by
        have m : e = z ∨ e = TI ∨ e = TO ∨ e = i1 ∨ e = i2 ∨ e = i3 := by simpa using hcm
        rcases m with rfl | rfl | rfl | rfl | rfl | rfl
        · exact zl
        · exact Heap.lt_size k2
        · exact Heap.lt_size k3
        · obtain ⟨_, e1, _⟩ := itM_obj k4; exact Heap.lt_size e1
        · obtain ⟨_, e2, _⟩ := itM_obj k5; exact Heap.lt_size e2
        · obtain ⟨_, e3, _⟩ := itM_obj k6; exact Heap.lt_size e3
      rw [upd_ne (Nat.ne_of_lt lt)]
      exact (hf e hcm).1
  done := by
    intro X e1 e2 e3 hc i pins s σ H E I hf st hg
    subst e1 e2 e3
    obtain ⟨k1, k2, ⟨x0, y0, z0, k3⟩, k4, k5, k6⟩ := st
    obtain ⟨xs, ys, zs, sx, sy, sz, j1, j2, j3, je⟩ := hg
    obtain ⟨its, rv, p, _⟩ := inv_sqM I sx
    obtain ⟨jts, rw_, p2, _⟩ := inv_sqM I sy
    obtain ⟨kts, rz_, p3, _⟩ := inv_sqM I sz
    have l1 : xs.length = its.toArray.size := by rw [rv.length]; rfl
    have l2 : ys.length = jts.toArray.size := by rw [rw_.length]; rfl
    have l3 : zs.length = kts.toArray.size := by rw [rz_.length]; rfl
    have hh : X.A.in1.handled = none := I.ok.hd hc
    refine wpAny_pyNext_zipD3_end S (drawM b1 hh i1 a n1 its.toArray) (drawM b2 hh i2 b n2 jts.toArray) (drawM b3 hh i3 c n3 kts.toArray) k1 k2 k3 ⟨k4, p⟩ ⟨k5, p2⟩ ⟨k6, p3⟩ (by omega) (by omega) (by omega) (by omega) fun h' tk hk => ⟨rfl, I.turnedL (ch := [z, TI, TO, i1, i2, i3]) (fun e o hb q =>
      hk e o (fun j => hb (by simp [j])) (fun j => hb (by simp [j])) (fun j => hb (by simp [j])) (fun j => hb (by simp [j])) (fun j => hb (by simp [j])) q) hf⟩
  self := fun A i s Q E st h => wpAny_pyIter_zip st.1 h
theorem sep_of3 (n a b c : Nat) (ha : a < n) (hb : b < n) (hc : c < n) : Sep3 (n + 5) (n + 3) (n + 4) n (n + 1) (n + 2) a b c :=
  zip_sep3 (N := n) (fp1 := [a]) (fp2 := [b]) (fp3 := [c]) (fun x h => by rw [List.mem_singleton.mp h]; exact ha) (fun x h => by rw [List.mem_singleton.mp h]; exact hb) (fun x h => by rw [List.mem_singleton.mp h]; exact hc)
def iZipM3 (b1 b2 b3 : Bool) (K : PySem.W.Frag) (ta : TA) : TI := fun σ H R => ta σ H fun vs H1 => ∃ a b c xs ys zs, vs = [.ref a, .ref b, .ref c] ∧ SqM b1 K H1 a xs ∧ SqM b2 K H1 b ys ∧ SqM b3 K H1 c zs ∧ R (ItzM3 b1 b2 b3 K a b c) H1
theorem pi_zipM3 {X : Cx} {b1 b2 b3 : Bool} {e e2 e3 : Expr} {ta : TA} {p pos tpos : Pos} {elts : List Expr} {kk : Nat} (hg : Gl X "zip") (hm : X.mg "zip" = none) (ha : PA X [e, e2, e3] ta)
    (hs : starEach [e, e2, e3] X.env = (false, eval e X.env) :: starEach [e2, e3] X.env) (hpl : (backTo pos (starEach [e2, e3] X.env)).any (·.1) = false) :
    PI X (.Tuple elts kk tpos) (.Call (.Name "zip" p) [e, e2, e3] [] pos) (iZipM3 b1 b2 b3 X.K ta) := by
  refine ⟨fun pins s σ H R I h => ?_⟩
  refine Call_ (ld_blt I hg hm PyProof.Rows.boot_zip (PyProof.Rows.callWith_type1 (thn (ha.run pos pins s σ H _ I h) fun us t1 ⟨vs, H1, I1, r1, q1⟩ => ?_) hs hpl))
  obtain ⟨a, b, c, xs, ys, zs, rfl, sx, sy, sz, q⟩ := q1
  cases r1 with
  | cons r rr =>
    cases rr with
    | cons r' rr =>
      cases rr with
      | cons r'' rr =>
        cases rr
        cases r
        cases r'
        cases r''
        obtain ⟨its, rv, p1, la⟩ := inv_sqM I1 sx
        obtain ⟨jts, rw_, p2, lb⟩ := inv_sqM I1 sy
        obtain ⟨kts, rz_, p3, lc⟩ := inv_sqM I1 sz
        refine zip_begins3 (beginM b1 a its.toArray) (beginM b2 b jts.toArray) (beginM b3 c kts.toArray) p1 p2 p3 fun h' k1 k2 k3 k4 k5 k5' k6 k7 => wpAny_pyIter_zip k1 ?_
        have J : Inv X pins σ H1 { t1 with heap := h' } := I1.kept (t' := t1.toks) k7
        have S : Sep3 (t1.heap.objs.size + 5) (t1.heap.objs.size + 3) (t1.heap.objs.size + 4) t1.heap.objs.size (t1.heap.objs.size + 1) (t1.heap.objs.size + 2) a b c := sep_of3 _ a b c la lb lc
        refine ⟨t1.heap.objs.size + 5, [t1.heap.objs.size + 5, t1.heap.objs.size + 3, t1.heap.objs.size + 4, t1.heap.objs.size, t1.heap.objs.size + 1, t1.heap.objs.size + 2], _, _, H1, rfl, J, turn_zipM3 S (ne_lt la) (ne_lt (Nat.lt_succ_of_lt lb)) (ne_lt (Nat.lt_succ_of_lt (Nat.lt_succ_of_lt lc))), ⟨k1, k2, ⟨_, _, _, k3⟩, itM_0 k4, itM_0 k5, itM_0 k5'⟩, fun e hcm => ?_, q⟩
        have le : t1.heap.objs.size ≤ e := by
          have m : e = t1.heap.objs.size + 5 ∨ e = t1.heap.objs.size + 3 ∨ e = t1.heap.objs.size + 4 ∨ e = t1.heap.objs.size ∨ e = t1.heap.objs.size + 1 ∨ e = t1.heap.objs.size + 2 := by simpa using hcm
          rcases m with e | e | e | e | e | e <;> rw [e] <;> first | exact Nat.le_refl _ | exact Nat.le_add_right _ _
        exact I1.fpOk le (I1.hok.fresh le)
end PF

/-! PF: list(zip(a, b)) of two lists; enumerate of a list or a tuple. -/
namespace PF
open PySem PySem.Spec PyProof.Rows L2
/-- new pairs, one after another -/
inductive Grow (H : Hp) : List (V × V) → List V → Hp → Prop
  | nil : Grow H [] [] H
  | snoc {ps : List (V × V)} {ts : List V} {H' : Hp} (g : Grow H ps ts H') {T : Addr} {x y : V} (n : H' T = none) : Grow H (ps ++ [(x, y)]) (ts ++ [.ref T]) (upd H' T (.tup [x, y]))
theorem Grow.same {H : Hp} {ps : List (V × V)} {ts : List V} {H' : Hp} (g : Grow H ps ts H') : Same H H' := by
  induction g with
  | nil => exact Same.refl _
  | snoc g n ih => exact ih.trans (same_upd n)
theorem Grow.len {H : Hp} {ps : List (V × V)} {ts : List V} {H' : Hp} (g : Grow H ps ts H') : ts.length = ps.length := by
  induction g with
  | nil => rfl
  | snoc g n ih => rw [List.length_append, List.length_append, ih]; rfl
theorem upd_swap {H : Hp} {p q : Addr} {u v : HO} (h : p ≠ q) : upd (upd H p u) q v = upd (upd H q v) p u := by
  funext c
  by_cases hp : c = p
  · subst hp
    rw [upd_ne h, upd_same, upd_same]
  · by_cases hq : c = q
    · subst hq
      rw [upd_same, upd_ne hp, upd_same]
    · rw [upd_ne hq, upd_ne hp, upd_ne hp, upd_ne hq]
theorem upd_twice {H : Hp} {p : Addr} {u v : HO} : upd (upd H p u) p v = upd H p v := by
  funext c
  by_cases hp : c = p
  · subst hp
    rw [upd_same, upd_same]
  · rw [upd_ne hp, upd_ne hp, upd_ne hp]
namespace LZ
theorem no_len : typeLookup (.type "zip") "__len__" = pure none := by rw [typeLookup_type, builtinLookup_eq_fast]; kernel_rfl
theorem no_hint : typeLookup (.type "zip") "__length_hint__" = pure none := by rw [typeLookup_type, builtinLookup_eq_fast]; kernel_rfl
/-- how the zip stands between two turns -/
def Zs (h : Heap) (z TI TO : Addr) : Prop := (IsZip h z TI TO .none ∧ ∃ x y, IsPair h TO x y) ∨ ∃ T f oT, IsZipHeld h z TI TO T f ∧ h.get? T = some oT ∧ T ≠ z
theorem Zs.keep {h h' : Heap} {z TI TO : Addr} (k : Zs h z TI TO) (s : ∀ c o, h.get? c = some o → h'.get? c = some o) : Zs h' z TI TO := by
  rcases k with ⟨a, x, y, b⟩ | ⟨T, f, oT, a, b, c⟩
  · exact .inl ⟨s _ _ a, x, y, s _ _ b⟩
  · exact .inr ⟨T, f, oT, s _ _ a, s _ _ b, c⟩
structure At (b1 b2 : Bool) (h : Heap) (z TI TO i1 i2 a b : Addr) (i : Nat) : Prop where
  zs : Zs h z TI TO
  ti : IsTupOf2 h TI (.ref i1) (.ref i2)
  k1 : ItM b1 h i1 a i
  k2 : ItM b2 h i2 b i
  to : ∃ o, h.get? TO = some o
theorem At.keep {b1 b2 : Bool} {h h' : Heap} {z TI TO i1 i2 a b : Addr} {i : Nat} (t : At b1 b2 h z TI TO i1 i2 a b i) (s : ∀ c o, h.get? c = some o → h'.get? c = some o) : At b1 b2 h' z TI TO i1 i2 a b i :=
  ⟨t.zs.keep s, s _ _ t.ti, itM_at t.k1 fun o q => s _ o q, itM_at t.k2 fun o q => s _ o q, let ⟨o, q⟩ := t.to; ⟨o, s _ o q⟩⟩
theorem Zs.but {h h' : Heap} {z TI TO S : Addr} (k : Zs h z TI TO) (nz : S ≠ z) (nO : S ≠ TO) (hS : ∃ o, h'.get? S = some o) (s : ∀ c o, c ≠ S → h.get? c = some o → h'.get? c = some o) : Zs h' z TI TO := by
  rcases k with ⟨a, x, y, b⟩ | ⟨T, f, oT, a, b, c⟩
  · exact .inl ⟨s _ _ (Ne.symm nz) a, x, y, s _ _ (Ne.symm nO) b⟩
  · by_cases e : T = S
    · subst e
      obtain ⟨o, ho⟩ := hS
      exact .inr ⟨T, f, o, s _ _ (Ne.symm nz) a, ho, c⟩
    · exact .inr ⟨T, f, oT, s _ _ (Ne.symm nz) a, s _ _ e b, c⟩
theorem At.but {b1 b2 : Bool} {h h' : Heap} {z TI TO i1 i2 a b S : Addr} {i : Nat} (t : At b1 b2 h z TI TO i1 i2 a b i) (ns : S ∉ [z, TI, TO, i1, i2]) (hS : ∃ o, h'.get? S = some o) (s : ∀ c o, c ≠ S → h.get? c = some o → h'.get? c = some o) : At b1 b2 h' z TI TO i1 i2 a b i := by
  have m : S ≠ z ∧ S ≠ TI ∧ S ≠ TO ∧ S ≠ i1 ∧ S ≠ i2 := by simpa using ns
  exact ⟨t.zs.but m.1 m.2.2.1 hS s, s _ _ (Ne.symm m.2.1) t.ti, itM_at t.k1 fun o q => s _ o (Ne.symm m.2.2.2.1) q, itM_at t.k2 fun o q => s _ o (Ne.symm m.2.2.2.2) q, let ⟨o, q⟩ := t.to; ⟨o, s _ o (Ne.symm m.2.2.1) q⟩⟩
/-- the cells lie apart -/
structure Ap (z TI TO i1 i2 a b : Addr) : Prop where
  s : Sep z TI TO i1 i2 a b
  n1 : a ≠ i1
  n2 : b ≠ i2
section
variable {prog : Program} {w : World} {A : Around} {E : Value → Shared → Prop} {s : Shared} {z TI TO i1 i2 T : Addr} {fp1 fp2 : List Addr} {N1 N2 i : Nat} {P1 P2 : Nat → Value → Prop} {St1 St2 : Nat → Heap → Prop} {f : Bool} {oT : Obj}
/-- the next pair while the one before is still out -/
theorem nx_held {Q : Value → Shared → Prop} (S : ZipSep2 z TI TO i1 i2 fp1 fp2) (D1 : Draws prog w A i1 fp1 N1 P1 St1) (D2 : Draws prog w A i2 fp2 N2 P2 St2) (kz : IsZipHeld s.heap z TI TO T f) (kT : s.heap.get? T = some oT) (kI : IsTupOf2 s.heap TI (.ref i1) (.ref i2)) (u1 : St1 i s.heap) (u2 : St2 i s.heap) (g1 : i < N1) (g2 : i < N2)
    (q : ∀ x1 x2 h' tk, P1 i x1 → P2 i x2 → IsZipHeld h' z TI TO T true → St1 (i + 1) h' → St2 (i + 1) h' → IsTupOf2 h' s.heap.objs.size x1 x2 → (∀ c o, c ≠ z → c ≠ i1 → c ≠ i2 → s.heap.get? c = some o → h'.get? c = some o) → Q (.ref s.heap.objs.size) { s with heap := h', toks := tk }) :
    wpAny (model prog w) A (Builtin.«zip.__next__» ⟨[.ref z], []⟩) (fun fin s' => ∃ v, fin = .done (.ret v) ∧ Q v s') E s := by
  obtain ⟨hp, gg, dd, t0, oo⟩ := s
  show wpAny _ _ (field (.ref z) 2 >>= _) _ _ _; refine wpAny_bind (wpAny_field kz rfl (x := .bool false) rfl ?_)
  show wpAny _ _ (field (.ref z) 3 >>= _) _ _ _; refine wpAny_bind (wpAny_field kz rfl (x := .ref TI) rfl ?_)
  refine wpAny_bind (wpAny_seqItems kI rfl ?_); show wpAny _ _ (Builtin.SmallTypes.ownedTupleIsFree (.ref z) >>= _) _ _ _
  refine wpAny_bind (wpAny_tupleHeld_zip kz kT fun j1 kz1 b1 => ?_)
  simp only [Bool.false_eq_true, if_false]; refine wpAny_bind ?_; rw [← Array.forIn_toList]
  simp only [List.forIn_cons, List.forIn_nil]; refine wpAny_bind (wpAny_bind (wpAny_holding ?_))
  show wpAny _ _ (Builtin.SmallTypes.nextOf (.ref i1) >>= _) _ _ ⟨j1, gg, dd, t0, oo⟩
  refine wpAny_bind (D1.item i _ _ _ g1 (D1.over u1 b1 S.zf1) fun x1 j2 t2 y1 v1 b2 => wpAny_pure ?_)
  replace b2 : Heap.SameBut i1 j1 j2 := b2
  refine wpAny_pure ?_; refine wpAny_bind (wpAny_bind (wpAny_holding ?_))
  show wpAny _ _ (Builtin.SmallTypes.nextOf (.ref i2) >>= _) _ _ ⟨j2, gg, dd, t2, oo⟩
  refine wpAny_bind (D2.item i _ _ _ g2 (D2.over (D2.over u2 b1 S.zf2) b2 S.sep1_2) fun x2 j3 t3 y2 v2 b3 => wpAny_pure ?_)
  replace b3 : Heap.SameBut i2 j2 j3 := b3
  refine wpAny_pure (wpAny_pure ?_); show wpAny _ _ (newTuple [x1, x2] >>= _) _ _ _
  refine wpAny_bind (wpAny_newTuple ?_)
  have sz : j3.objs.size = hp.objs.size := by rw [b3.1, b2.1, b1.1]
  have kz3 : IsZipHeld j3 z TI TO T true := b3.extBut _ _ S.zi2 (b2.extBut _ _ S.zi1 kz1)
  have kp : ∀ c o, c ≠ z → c ≠ i1 → c ≠ i2 → hp.get? c = some o → j3.get? c = some o := fun c o c1 c2 c3 e => b3.extBut _ _ c3 (b2.extBut _ _ c2 (b1.extBut _ _ c1 e))
  refine wpAny_pure ⟨_, rfl, ?_⟩
  show Q (.ref j3.objs.size) ⟨j3.push { cls := .type "tuple", data := .seq #[x1, x2] }, gg, dd, t3, oo⟩
  have kn : IsTupOf2 (j3.push { cls := .type "tuple", data := .seq #[x1, x2] }) j3.objs.size x1 x2 := Heap.get?_push_size _ rfl
  rw [sz] at kn ⊢
  exact q x1 x2 _ t3 y1 y2 (Heap.get?_push_of_some _ kz3) (D1.frame _ _ _ (D1.over v1 b3 S.sep2_1) fun b _ o e => Heap.get?_push_of_some _ e) (D2.frame _ _ _ v2 fun b _ o e => Heap.get?_push_of_some _ e) kn fun c o c1 c2 c3 e => Heap.get?_push_of_some _ (kp c o c1 c2 c3 e)
theorem nx_end {Q : Fin → Shared → Prop} (S : ZipSep2 z TI TO i1 i2 fp1 fp2) (D1 : Draws prog w A i1 fp1 N1 P1 St1) (D2 : Draws prog w A i2 fp2 N2 P2 St2) (kz : IsZipHeld s.heap z TI TO T f) (kT : s.heap.get? T = some oT) (kI : IsTupOf2 s.heap TI (.ref i1) (.ref i2)) (u1 : St1 i s.heap) (u2 : St2 i s.heap) (g1 : i ≤ N1) (g2 : i ≤ N2) (ge : i = N1 ∨ i = N2)
    (q : ∀ h' tk e, (∀ c o, c ≠ z → c ≠ i1 → c ≠ i2 → s.heap.get? c = some o → h'.get? c = some o) → (∃ o, h'.get? e = some o ∧ o.cls = .type "StopIteration") → E (.ref e) { s with heap := h', toks := tk }) :
    wpAny (model prog w) A (Builtin.«zip.__next__» ⟨[.ref z], []⟩) Q E s := by
  obtain ⟨hp, gg, dd, t0, oo⟩ := s
  show wpAny _ _ (field (.ref z) 2 >>= _) _ _ _; refine wpAny_bind (wpAny_field kz rfl (x := .bool false) rfl ?_)
  show wpAny _ _ (field (.ref z) 3 >>= _) _ _ _; refine wpAny_bind (wpAny_field kz rfl (x := .ref TI) rfl ?_)
  refine wpAny_bind (wpAny_seqItems kI rfl ?_); show wpAny _ _ (Builtin.SmallTypes.ownedTupleIsFree (.ref z) >>= _) _ _ _
  refine wpAny_bind (wpAny_tupleHeld_zip kz kT fun j1 kz1 b1 => ?_)
  simp only [Bool.false_eq_true, if_false]; refine wpAny_bind ?_; rw [← Array.forIn_toList]
  simp only [List.forIn_cons, List.forIn_nil]; refine wpAny_bind (wpAny_bind (wpAny_holding ?_))
  show wpAny _ _ (Builtin.SmallTypes.nextOf (.ref i1) >>= _) _ _ ⟨j1, gg, dd, t0, oo⟩
  by_cases l1 : i < N1
  · refine wpAny_bind (D1.item i _ _ _ l1 (D1.over u1 b1 S.zf1) fun x1 j2 t2 y1 v1 b2 => wpAny_pure ?_)
    replace b2 : Heap.SameBut i1 j1 j2 := b2
    have e2 : i = N2 := by omega
    refine wpAny_pure ?_; refine wpAny_bind (wpAny_bind (wpAny_holding ?_))
    show wpAny _ _ (Builtin.SmallTypes.nextOf (.ref i2) >>= _) _ _ ⟨j2, gg, dd, t2, oo⟩
    refine wpAny_bind (D2.done ⟨j2, gg, dd, t2, oo⟩ _ _ (by rw [← e2]; exact D2.over (D2.over u2 b1 S.zf2) b2 S.sep1_2) fun j3 e b3 he => ?_)
    exact q j3 t2 e (fun c o c1 c2 c3 y => b3 _ _ c3 (b2.extBut _ _ c2 (b1.extBut _ _ c1 y))) he
  · have e1 : i = N1 := by omega
    refine wpAny_bind (D1.done ⟨j1, gg, dd, t0, oo⟩ _ _ (by rw [← e1]; exact D1.over u1 b1 S.zf1) fun j3 e b3 he => ?_)
    exact q j3 t0 e (fun c o c1 c2 _ y => b3 _ _ c2 (b1.extBut _ _ c1 y)) he
theorem py_held {Q : Option Value → Shared → Prop} (S : ZipSep2 z TI TO i1 i2 fp1 fp2) (D1 : Draws prog w A.in1 i1 fp1 N1 P1 St1) (D2 : Draws prog w A.in1 i2 fp2 N2 P2 St2) (kz : IsZipHeld s.heap z TI TO T f) (kT : s.heap.get? T = some oT) (kI : IsTupOf2 s.heap TI (.ref i1) (.ref i2)) (u1 : St1 i s.heap) (u2 : St2 i s.heap) (g1 : i < N1) (g2 : i < N2)
    (q : ∀ x1 x2 h' tk, P1 i x1 → P2 i x2 → IsZipHeld h' z TI TO T true → St1 (i + 1) h' → St2 (i + 1) h' → IsTupOf2 h' s.heap.objs.size x1 x2 → (∀ c o, c ≠ z → c ≠ i1 → c ≠ i2 → s.heap.get? c = some o → h'.get? c = some o) → Q (some (.ref s.heap.objs.size)) { s with heap := h', toks := tk }) :
    wpAny (model prog w) A (pyNext (.ref z)) Q E s := by
  have ty : s.TypeIs (.ref z) "zip" := ⟨_, kz, rfl⟩
  unfold pyNext; exact wpAny_bind (wpAny_attempt (wpAny_callSpecial?_slot (name := Str.ofString "__next__") ty F.slot_zip_next (wpAny_call_entry F.slot_zip_next ty F.entry_zip_next (nx_held S D1 D2 kz kT kI u1 u2 g1 g2 fun x1 x2 h' tk y1 y2 b1 b2 b3 b4 b5 => wpAny_pure (q x1 x2 h' tk y1 y2 b1 b2 b3 b4 b5)) (F.args_zip_next_1 _))))
theorem py_end {Q : Option Value → Shared → Prop} (S : ZipSep2 z TI TO i1 i2 fp1 fp2) (D1 : Draws prog w A.in1 i1 fp1 N1 P1 St1) (D2 : Draws prog w A.in1 i2 fp2 N2 P2 St2) (kz : IsZipHeld s.heap z TI TO T f) (kT : s.heap.get? T = some oT) (kI : IsTupOf2 s.heap TI (.ref i1) (.ref i2)) (u1 : St1 i s.heap) (u2 : St2 i s.heap) (g1 : i ≤ N1) (g2 : i ≤ N2) (ge : i = N1 ∨ i = N2)
    (q : ∀ h' tk, (∀ c o, c ≠ z → c ≠ i1 → c ≠ i2 → s.heap.get? c = some o → h'.get? c = some o) → Q none { s with heap := h', toks := tk }) :
    wpAny (model prog w) A (pyNext (.ref z)) Q E s := by
  have ty : s.TypeIs (.ref z) "zip" := ⟨_, kz, rfl⟩
  unfold pyNext; refine wpAny_bind (wpAny_attempt (wpAny_callSpecial?_slot (name := Str.ofString "__next__") ty F.slot_zip_next (wpAny_call_entry F.slot_zip_next ty F.entry_zip_next (nx_end S D1 D2 kz kT kI u1 u2 g1 g2 ge fun h' tk e hk he => ?_) (F.args_zip_next_1 _))))
  obtain ⟨o, ho, hc⟩ := he
  refine wpAny_bind (wpAny_isInstance (T := "StopIteration") (b := true) ⟨o, ho, hc⟩ isSubtype_stop ?_); exact wpAny_pure (q _ _ hk)
end
section
variable {prog : Program} {w : World} {A : Around} {E : Value → Shared → Prop} {s : Shared}
/-- the next pair -/
theorem item {b1 b2 : Bool} {z TI TO i1 i2 a b : Addr} {i : Nat} {xs ys : Array Value} {x y : Value} {Q : Option Value → Shared → Prop} (hh : A.in1.handled = none) (D : Ap z TI TO i1 i2 a b) (t : At b1 b2 s.heap z TI TO i1 i2 a b i) (o1 : ObM b1 s.heap a xs) (o2 : ObM b2 s.heap b ys) (hx : xs[i]? = some x) (hy : ys[i]? = some y)
    (hQ : ∀ h' tk, At b1 b2 h' z TI TO i1 i2 a b (i + 1) → IsTupOf2 h' s.heap.objs.size x y → (∀ c o, c ∉ [z, TI, TO, i1, i2] → s.heap.get? c = some o → h'.get? c = some o) → Q (some (.ref s.heap.objs.size)) { s with heap := h', toks := tk }) :
    wpAny (model prog w) A (pyNext (.ref z)) Q E s := by
  have zl : z < s.heap.objs.size := by
    rcases t.zs with ⟨q, _⟩ | ⟨T, f, oT, q, _, _⟩
    · exact Heap.lt_size q
    · exact Heap.lt_size q
  have l1 : i < xs.size := (Array.getElem?_eq_some_iff.mp hx).1
  have l2 : i < ys.size := (Array.getElem?_eq_some_iff.mp hy).1
  rcases t.zs with ⟨q, u, v, o⟩ | ⟨T, f, oT, q, r, nT⟩
  · refine wpAny_pyNext_zipD2_item D.s (drawM b1 hh i1 a D.n1 xs) (drawM b2 hh i2 b D.n2 ys) q t.ti o ⟨t.k1, o1⟩ ⟨t.k2, o2⟩ l1 l2 fun v1 v2 h' tk f1 f2 m1 m2 m3 m4 m5 m6 m7 => ?_
    have f1 : v1 = x := Option.some.inj (f1.symm.trans hx)
    have f2 : v2 = y := Option.some.inj (f2.symm.trans hy)
    subst f1 f2
    refine hQ h' tk ⟨.inr ⟨s.heap.objs.size, false, _, m1, m5, Nat.ne_of_gt zl⟩, m7 _ _ D.s.TIz D.s.TITO D.s.TIi1 D.s.TIi2 t.ti, m3.1, m4.1, ⟨_, m2⟩⟩ m5 fun c o hc g => ?_
    have m : c ≠ z ∧ c ≠ TI ∧ c ≠ TO ∧ c ≠ i1 ∧ c ≠ i2 := by simpa using hc
    exact m7 c o m.1 m.2.2.1 m.2.2.2.1 m.2.2.2.2 g
  · refine py_held D.s (drawM b1 hh i1 a D.n1 xs) (drawM b2 hh i2 b D.n2 ys) q r t.ti ⟨t.k1, o1⟩ ⟨t.k2, o2⟩ l1 l2 fun v1 v2 h' tk f1 f2 m1 m3 m4 m5 m7 => ?_
    have f1 : v1 = x := Option.some.inj (f1.symm.trans hx)
    have f2 : v2 = y := Option.some.inj (f2.symm.trans hy)
    subst f1 f2
    have al : ∃ o, h'.get? T = some o := by
      by_cases e1 : T = i1
      · obtain ⟨o, ho, _⟩ := itM_obj m3.1
        exact ⟨o, by rw [e1]; exact ho⟩
      · by_cases e2 : T = i2
        · obtain ⟨o, ho, _⟩ := itM_obj m4.1
          exact ⟨o, by rw [e2]; exact ho⟩
        · exact ⟨_, m7 T _ nT e1 e2 r⟩
    obtain ⟨o', ho'⟩ := al
    refine hQ h' tk ⟨.inr ⟨T, true, o', m1, ho', nT⟩, m7 _ _ D.s.TIz D.s.TIi1 D.s.TIi2 t.ti, m3.1, m4.1, let ⟨o, q⟩ := t.to; ⟨o, m7 _ o D.s.TOz D.s.Ti1 D.s.Ti2 q⟩⟩ m5 fun c o hc g => ?_
    have m : c ≠ z ∧ c ≠ TI ∧ c ≠ TO ∧ c ≠ i1 ∧ c ≠ i2 := by simpa using hc
    exact m7 c o m.1 m.2.2.2.1 m.2.2.2.2 g
theorem fin {b1 b2 : Bool} {z TI TO i1 i2 a b : Addr} {i : Nat} {xs ys : Array Value} {Q : Option Value → Shared → Prop} (hh : A.in1.handled = none) (D : Ap z TI TO i1 i2 a b) (t : At b1 b2 s.heap z TI TO i1 i2 a b i) (o1 : ObM b1 s.heap a xs) (o2 : ObM b2 s.heap b ys) (l1 : i ≤ xs.size) (l2 : i ≤ ys.size) (he : i = xs.size ∨ i = ys.size)
    (hQ : ∀ h' tk, (∀ c o, c ∉ [z, TI, TO, i1, i2] → s.heap.get? c = some o → h'.get? c = some o) → Q none { s with heap := h', toks := tk }) :
    wpAny (model prog w) A (pyNext (.ref z)) Q E s := by
  rcases t.zs with ⟨q, u, v, o⟩ | ⟨T, f, oT, q, r, nT⟩
  · refine wpAny_pyNext_zipD2_end D.s (drawM b1 hh i1 a D.n1 xs) (drawM b2 hh i2 b D.n2 ys) q t.ti o ⟨t.k1, o1⟩ ⟨t.k2, o2⟩ l1 l2 he fun h' tk m7 => hQ h' tk fun c o hc g => ?_
    have m : c ≠ z ∧ c ≠ TI ∧ c ≠ TO ∧ c ≠ i1 ∧ c ≠ i2 := by simpa using hc
    exact m7 c o m.1 m.2.2.1 m.2.2.2.1 m.2.2.2.2 g
  · refine py_end D.s (drawM b1 hh i1 a D.n1 xs) (drawM b2 hh i2 b D.n2 ys) q r t.ti ⟨t.k1, o1⟩ ⟨t.k2, o2⟩ l1 l2 he fun h' tk m7 => hQ h' tk fun c o hc g => ?_
    have m : c ≠ z ∧ c ≠ TI ∧ c ≠ TO ∧ c ≠ i1 ∧ c ≠ i2 := by simpa using hc
    exact m7 c o m.1 m.2.2.2.1 m.2.2.2.2 g
end
theorem zip_at {xs ys : List V} {i : Nat} {x y : V} (hx : xs[i]? = some x) (hy : ys[i]? = some y) : (xs.zip ys).take (i + 1) = (xs.zip ys).take i ++ [(x, y)] := by
  have h : (xs.zip ys)[i]? = some (x, y) := by
    rw [List.getElem?_zip_eq_some]
    exact ⟨hx, hy⟩
  rw [List.take_add_one, h]
  rfl
/-- the loop that fills the list -/
theorem loop {b1 b2 : Bool} {X : Cx} {pins : List (Addr × Obj)} {σ : L2.St} {A : Around} (hh : A.in1.handled = none) {a b z TI TO i1 i2 S : Addr} (D : Ap z TI TO i1 i2 a b) (ns : S ∉ [z, TI, TO, i1, i2]) {xs ys : List V} {H0 : Hp} (S0 : H0 S = none) (sx : SqM b1 X.K H0 a xs) (sy : SqM b2 X.K H0 b ys) (hz : (xs.zip ys).length ≤ sizeLine) {R : Result → Shared → Prop} {res : Value} :
    ∀ (k i : Nat) (s : Shared) (H : Hp) (ts : List V), (xs.zip ys).length - i = k → i ≤ (xs.zip ys).length → Grow H0 ((xs.zip ys).take i) ts H → H S = none → Inv X pins σ (upd H S (.lst ts)) s → At b1 b2 s.heap z TI TO i1 i2 a b i → (∀ c ∈ [z, TI, TO, i1, i2], FpOk X pins (upd H S (.lst ts)) c) →
    (∀ s' H' ts', Grow H0 (xs.zip ys) ts' H' → H' S = none → Inv X pins σ (upd H' S (.lst ts')) s' → R (.ok (.ret res)) s') →
    codeAny (model X.prog X.w) A (.builtin "list.extend.loop" ⟨[.ref S, .ref z, res], []⟩) R s := by
  intro k
  induction k with
  | zero =>
    intro i s H ts hk hi g hS I t hf hR
    have e : i = (xs.zip ys).length := by omega
    have nS : H0 S = none := S0
    have sm : Same H0 (upd H S (.lst ts)) := g.same.trans (same_upd hS)
    obtain ⟨its, rv, p, _⟩ := inv_sqM I (sqM_same sm sx)
    obtain ⟨jts, rw_, p2, _⟩ := inv_sqM I (sqM_same sm sy)
    refine codeAny_builtin F.entry_extend_loop ?_
    rw [Around.under_plainId F.plain_extend_loop _]
    show wpAny _ A.in1 (pyNext (.ref z) >>= _) _ _ s
    have l1 : xs.length = its.length := rv.length
    have l2 : ys.length = jts.length := rw_.length
    rw [List.length_zip] at e
    have z1 : its.toArray.size = its.length := rfl
    have z2 : jts.toArray.size = jts.length := rfl
    refine wpAny_bind (fin hh D t p p2 (by omega) (by omega) (by omega) fun h' tk m7 => ?_)
    · have J := I.turnedL (t' := tk) (ch := [z, TI, TO, i1, i2]) m7 hf
      refine wpAny_pure (hR _ H ts ?_ hS J)
      have : (xs.zip ys).take i = xs.zip ys := List.take_of_length_le (by rw [List.length_zip]; omega)
      rw [this] at g
      exact g
  | succ k ih =>
    intro i s H ts hk hi g hS I t hf hR
    have lt : i < (xs.zip ys).length := by omega
    have lt' := lt
    rw [List.length_zip] at lt'
    have sm : Same H0 (upd H S (.lst ts)) := g.same.trans (same_upd hS)
    obtain ⟨its, rv, p, _⟩ := inv_sqM I (sqM_same sm sx)
    obtain ⟨jts, rw_, p2, _⟩ := inv_sqM I (sqM_same sm sy)
    obtain ⟨x, hx⟩ : ∃ x, xs[i]? = some x := ⟨xs[i], List.getElem?_eq_getElem (by omega)⟩
    obtain ⟨y, hy⟩ : ∃ y, ys[i]? = some y := ⟨ys[i], List.getElem?_eq_getElem (by omega)⟩
    obtain ⟨u, hu, ru⟩ := rv.get hx
    obtain ⟨u2, hu2, ru2⟩ := rw_.get hy
    refine codeAny_builtin F.entry_extend_loop ?_
    rw [Around.under_plainId F.plain_extend_loop _]
    show wpAny _ A.in1 (pyNext (.ref z) >>= _) _ _ s
    refine wpAny_bind (item hh D t p p2 (x := u) (y := u2) (by simpa using hu) (by simpa using hu2) fun h' tk t' m5 m7 => ?_)
    have hTn : upd H S (.lst ts) s.heap.objs.size = none := I.hok.fresh (Nat.le_refl _)
    have nw : ObjOk X.prog X.w (upd (upd H S (.lst ts)) s.heap.objs.size (.tup [x, y])) h' s.heap.objs.size (.tup [x, y]) := ⟨by show 2 ≤ sizeLine; decide, [u, u2], .cons ru (.cons ru2 .nil), ⟨_, m5, rfl, _, rfl⟩⟩
    have J := I.turnedNew (t' := tk) (ch := [z, TI, TO, i1, i2]) m7 hf (Nat.le_refl _) nw
    have hTS : S ≠ s.heap.objs.size := fun e => by
      rw [← e, upd_same] at hTn
      cases hTn
    rw [upd_swap hTS] at J
    have HT : H s.heap.objs.size = none := by
      rw [upd_ne (Ne.symm hTS)] at hTn
      exact hTn
    have g' := Grow.snoc g HT (x := x) (y := y)
    rw [← zip_at hx hy] at g'
    have hS' : upd H s.heap.objs.size (.tup [x, y]) S = none := by rw [upd_ne hTS]; exact hS
    obtain ⟨z1, ats, n, r, hl, eS⟩ := J.lstM (l := S) (xs := ts) upd_same
    have tl : ts.length = i := by
      rw [g.len, List.length_take]
      omega
    have J2 := J.lset (t' := tk) (its' := ats ++ [Value.ref s.heap.objs.size]) (f := (·.push (Value.ref s.heap.objs.size))) (ys := ts ++ [V.ref s.heap.objs.size]) upd_same eS (by simp) (r.append (.cons rfl .nil)) (by
      rw [List.length_append, List.length_singleton, tl]
      omega)
    rw [upd_twice] at J2
    show wpAny _ A.in1 (updateSeq S (·.push (Value.ref s.heap.objs.size)) >>= _) _ _ _
    have up : ∀ c o, c ≠ S → h'.get? c = some o → (h'.update S (Obj.mapSeq (·.push (Value.ref s.heap.objs.size)))).get? c = some o := fun c o hc q => (Heap.get?_update_other _ _ (Ne.symm hc)).trans q
    refine wpAny_bind (wpAny_updateSeq (s := { s with heap := h', toks := tk }) eS rfl (wpAny_pure ⟨plainId_quiet F.plain_extend_loop _, ih (i + 1) _ _ _ (by omega) lt g' hS' J2 (t'.but ns ⟨_, Heap.get?_update_self _ eS rfl⟩ up) (fun c hc => ⟨?_, (hf c hc).2⟩) hR⟩) ?_ ?_)
    · have c0 := (hf c hc).1
      have cS : c ≠ S := fun e => ns (e ▸ hc)
      rw [upd_ne cS] at c0 ⊢
      have cl : c ≠ s.heap.objs.size := fun e => by
        have m : c = z ∨ c = TI ∨ c = TO ∨ c = i1 ∨ c = i2 := by simpa using hc
        have : c < s.heap.objs.size := by
          rcases m with q | q | q | q | q
          · rw [q]
            rcases t.zs with ⟨q, _⟩ | ⟨T, f, oT, q, _, _⟩
            · exact Heap.lt_size q
            · exact Heap.lt_size q
          · rw [q]; exact Heap.lt_size t.ti
          · rw [q]; obtain ⟨_, q⟩ := t.to; exact Heap.lt_size q
          · rw [q]; obtain ⟨_, q, _⟩ := itM_obj t.k1; exact Heap.lt_size q
          · rw [q]; obtain ⟨_, q, _⟩ := itM_obj t.k2; exact Heap.lt_size q
        exact absurd e (Nat.ne_of_lt this)
      rw [upd_ne cl]
      exact c0
    · show ats.length ≤ sizeLine
      omega
    · show (ats.toArray.push _).size ≤ sizeLine + 1
      rw [Array.size_push]
      show ats.length + 1 ≤ sizeLine + 1
      omega
/-- list.extend with a zip: the list is new -/
theorem ext {b1 b2 : Bool} {X : Cx} {pins : List (Addr × Obj)} {σ : L2.St} {A : Around} (hh : A.in1.handled = none) {a b z TI TO i1 i2 : Addr} (D : Ap z TI TO i1 i2 a b) {xs ys : List V} {H0 : Hp} {s0 : Shared} {h : Heap} {c0 : Nat} (I : Inv X pins σ H0 s0) (kp : ∀ c o, s0.heap.get? c = some o → h.get? c = some o)
    (hS : h.get? s0.heap.objs.size = some { cls := .type "list", data := .seq #[] c0 }) (hz0 : IsZip s0.heap z TI TO .none) (t0 : At b1 b2 s0.heap z TI TO i1 i2 a b 0) (hf : ∀ c ∈ [z, TI, TO, i1, i2], FpOk X pins H0 c) (sx : SqM b1 X.K H0 a xs) (sy : SqM b2 X.K H0 b ys) (hz : (xs.zip ys).length ≤ sizeLine) {R : Result → Shared → Prop} {res : Value}
    (hR : ∀ s' H' ts', Grow H0 (xs.zip ys) ts' H' → H' s0.heap.objs.size = none → Inv X pins σ (upd H' s0.heap.objs.size (.lst ts')) s' → R (.ok (.ret res)) s') :
    wpAny (model X.prog X.w) A.in1 (Builtin.List.listExtendWith (.ref s0.heap.objs.size) (.ref z) res)
      (fun fin s' => match fin with | .done f => R (.ok f) s' | .again c' => c'.quiet = true ∧ codeAny (model X.prog X.w) A c' R s') (fun e s' => R (.error e) s') { s0 with heap := h } := by
  have lz : ∀ c ∈ [z, TI, TO, i1, i2], c < s0.heap.objs.size := fun c hc => by
    have m : c = z ∨ c = TI ∨ c = TO ∨ c = i1 ∨ c = i2 := by simpa using hc
    rcases m with q | q | q | q | q
    · rw [q]; exact Heap.lt_size hz0
    · rw [q]; exact Heap.lt_size t0.ti
    · rw [q]; obtain ⟨_, q⟩ := t0.to; exact Heap.lt_size q
    · rw [q]; obtain ⟨_, q, _⟩ := itM_obj t0.k1; exact Heap.lt_size q
    · rw [q]; obtain ⟨_, q, _⟩ := itM_obj t0.k2; exact Heap.lt_size q
  have ns : s0.heap.objs.size ∉ [z, TI, TO, i1, i2] := fun hc => Nat.lt_irrefl _ (lz _ hc)
  have nz : s0.heap.objs.size ≠ z := fun e => ns (by rw [e]; simp)
  have ty : ({ s0 with heap := h } : Shared).TypeIs (.ref z) "zip" := ⟨_, kp _ _ hz0, rfl⟩
  have q1 : Builtin.List.listSameRef (.ref s0.heap.objs.size) (.ref z) = false := by simp [Builtin.List.listSameRef, nz]
  have q2 : (Value.type "zip" == Value.type "list") = false := by decide
  have q3 : (Value.type "zip" == Value.type "tuple") = false := by decide
  unfold Builtin.List.listExtendWith; refine wpAny_bind (wpAny_typeOf ty ?_)
  simp only [q1, q2, q3, Bool.or_false, Bool.false_eq_true, if_false]
  refine wpAny_bind (wpAny_pyIter_zip (kp _ _ hz0) ?_); refine wpAny_bind (wpAny_holding ?_)
  unfold Builtin.List.listLengthHint; refine wpAny_bind (wpAny_specialOf ty no_len ?_)
  show wpAny _ A.in1 (specialOf (Value.ref z) (Str.ofString "__length_hint__") >>= _) _ _ _
  refine wpAny_bind (wpAny_specialOf ty no_hint (wpAny_pure ?_))
  show wpAny _ A.in1 (rule "list.extend.makes-room" >>= fun _ => Builtin.List.listTouch (.ref s0.heap.objs.size) >>= fun _ => again (.builtin "list.extend.loop" ⟨[.ref s0.heap.objs.size, .ref z, res], []⟩)) _ _ _
  refine wpAny_bind (wpAny_rule ?_); refine wpAny_bind ?_
  show wpAny _ A.in1 (updateSeq s0.heap.objs.size (·.push .none) >>= fun _ => updateSeq s0.heap.objs.size (·.pop)) _ _ _
  refine wpAny_bind (wpAny_updateSeq (s := { s0 with heap := h }) hS rfl ?_)
  have e2 := Heap.get?_update_self (Obj.mapSeq (·.push Value.none)) hS rfl
  refine wpAny_updateSeq (hz := by seq_fits) e2 rfl ?_
  have e3 := Heap.get?_update_self (Obj.mapSeq (·.pop)) e2 rfl
  have oth : ∀ c o, s0.heap.get? c = some o → ((h.update s0.heap.objs.size (Obj.mapSeq (·.push Value.none))).update s0.heap.objs.size (Obj.mapSeq (·.pop))).get? c = some o := fun c o q => by
    have ne : s0.heap.objs.size ≠ c := fun e => Nat.lt_irrefl _ (by have := Heap.lt_size q; rw [← e] at this; exact this)
    exact (Heap.get?_update_other _ _ ne).trans ((Heap.get?_update_other _ _ ne).trans (kp c o q))
  have J : Inv X pins σ (upd H0 s0.heap.objs.size (.lst [])) { s0 with heap := ((h.update s0.heap.objs.size (Obj.mapSeq (·.push Value.none))).update s0.heap.objs.size (Obj.mapSeq (·.pop))) } :=
    I.laid (t' := s0.toks) oth (Nat.le_refl _) (show ObjOk X.prog X.w _ _ _ (.lst []) from ⟨Nat.zero_le _, [], _, .nil, e3⟩)
  refine wpAny_pure ⟨plainId_quiet F.plain_extend_loop _, loop hh D ns I.fresh sx sy hz _ 0 _ H0 [] rfl (Nat.zero_le _) .nil I.fresh J (t0.keep oth) (fun c hc => ⟨?_, (hf c hc).2⟩) hR⟩
  rw [upd_ne (Nat.ne_of_lt (lz c hc))]
  exact (hf c hc).1
/-- list(z) -/
theorem made {b1 b2 : Bool} {X : Cx} {pins : List (Addr × Obj)} {σ : L2.St} {A : Around} {E : Value → Shared → Prop} (hh : A.in1.in1.handled = none) {a b z TI TO i1 i2 : Addr} (D : Ap z TI TO i1 i2 a b) {xs ys : List V} {H0 : Hp} {s0 : Shared} (I : Inv X pins σ H0 s0)
    (hz0 : IsZip s0.heap z TI TO .none) (t0 : At b1 b2 s0.heap z TI TO i1 i2 a b 0) (hf : ∀ c ∈ [z, TI, TO, i1, i2], FpOk X pins H0 c) (sx : SqM b1 X.K H0 a xs) (sy : SqM b2 X.K H0 b ys) (hz : (xs.zip ys).length ≤ sizeLine) {Q : Value → Shared → Prop}
    (hQ : ∀ s' H' ts', Grow H0 (xs.zip ys) ts' H' → H' s0.heap.objs.size = none → Inv X pins σ (upd H' s0.heap.objs.size (.lst ts')) s' → Q (.ref s0.heap.objs.size) s') :
    wpAny (model X.prog X.w) A (call (.type "list") [.ref z]) Q E s0 := by
  refine callType_codes (Q₁ := fun obj s₁ => obj = .ref s0.heap.objs.size ∧ s₁ = { s0 with heap := s0.heap.push { cls := .type "list", data := .seq #[] } }) F.called_list (F.typeCall_list_1 _) F.entry_list_init (code_list_new _ ⟨rfl, rfl⟩) fun obj s₁ h₁ => ?_
  obtain ⟨rfl, rfl⟩ := h₁
  have hS : (s0.heap.push { cls := .type "list", data := .seq #[] }).get? s0.heap.objs.size = some { cls := .type "list", data := .seq #[] } := Heap.get?_push_size _ rfl
  refine ⟨⟨_, hS, rfl⟩, F.args_list_init_2 _ _, ?_⟩
  show wpAny _ A.in1.in1 (do let old ← Builtin.List.listItems (.ref s0.heap.objs.size); Builtin.List.listUpdate (.ref s0.heap.objs.size) (fun _ => #[]); letGo old.toList.reverse; Builtin.List.listExtendWith (.ref s0.heap.objs.size) (.ref z) .none) _ _ _
  refine wpAny_bind ?_
  unfold Builtin.List.listItems; refine wpAny_bind (wpAny_seqItems hS rfl (wpAny_pure ?_))
  show wpAny _ A.in1.in1 (updateSeq s0.heap.objs.size (fun _ => #[]) >>= fun _ => letGo (#[] : Array Value).toList.reverse >>= fun _ => Builtin.List.listExtendWith (.ref s0.heap.objs.size) (.ref z) .none) _ _ _
  refine wpAny_bind (wpAny_updateSeq (s := { s0 with heap := s0.heap.push { cls := .type "list", data := .seq #[] } }) hS rfl ?_)
  have e2 := Heap.get?_update_self (Obj.mapSeq (fun _ => (#[] : Array Value))) hS rfl
  refine wpAny_bind (wpAny_letGo (ext (A := A.in1) hh D I (fun c o q => ?_) e2 hz0 t0 hf sx sy hz fun s' H' ts' g n J => ⟨rfl, hQ s' H' ts' g n J⟩))
  have ne : s0.heap.objs.size ≠ c := fun e => Nat.lt_irrefl _ (by have := Heap.lt_size q; rw [← e] at this; exact this)
  exact (Heap.get?_update_other _ _ ne).trans (Heap.get?_push_of_some _ q)
theorem apart (n a b : Nat) (ha : a < n) (hb : b < n) : Ap (n + 4) (n + 2) (n + 3) n (n + 1) a b := ⟨sep_of n a b ha hb, ne_lt ha, ne_lt (Nat.lt_succ_of_lt hb)⟩
def tLz (b1 b2 : Bool) (K : PySem.W.Frag) (ta : TA) : TE := fun σ H Q => ta σ H fun vs H1 => ∃ a b xs ys, vs = [.ref a, .ref b] ∧ SqM b1 K H1 a xs ∧ SqM b2 K H1 b ys ∧ (xs.zip ys).length ≤ sizeLine ∧ ∀ S ts H2, Grow H1 (xs.zip ys) ts H2 → H2 S = none → Q (.ref S) (upd H2 S (.lst ts))
theorem pe {b1 b2 : Bool} {X : Cx} {e e2 : Expr} {ta : TA} {p p2 pos pos2 : Pos} (hc : X.calm = true) (hl : Gl X "list") (ml : X.mg "list" = none) (hg : Gl X "zip") (hm : X.mg "zip" = none) (ha : PA X [e, e2] ta)
    (hs : starEach [e, e2] X.env = (false, eval e X.env) :: starEach [e2] X.env) (hpl : (backTo pos2 (starEach [e2] X.env)).any (·.1) = false) :
    PE X (.Call (.Name "list" p) [.Call (.Name "zip" p2) [e, e2] [] pos2] [] pos) (tLz b1 b2 X.K ta) := by
  refine ⟨fun pins s σ H Q I h => ?_⟩
  refine Call_ (ld_blt I hl ml boot_list (PyProof.Rows.callWith_type1 (args_cons (Call_ (ld_blt I hg hm PyProof.Rows.boot_zip (PyProof.Rows.callWith_type1 (thn (ha.run pos2 pins s σ H _ I h) fun us t1 ⟨vs, H1, I1, r1, q1⟩ => ?_) hs hpl))) rfl) rfl rfl))
  obtain ⟨a, b, xs, ys, rfl, sx, sy, hz, q⟩ := q1
  cases r1 with
  | cons r rr =>
    cases rr with
    | cons r' rr =>
      cases rr
      cases r
      cases r'
      obtain ⟨its, rv, p1, la⟩ := inv_sqM I1 sx
      obtain ⟨jts, rw_, p2, lb⟩ := inv_sqM I1 sy
      refine zip_begins2 (beginM b1 a its.toArray) (beginM b2 b jts.toArray) p1 p2 fun h' k1 k2 k3 k4 k5 k6 k7 => args_nil ?_
      have J : Inv X pins σ H1 { t1 with heap := h' } := I1.kept (t' := t1.toks) k7
      have hh : X.A.in1.in1.handled = none := I1.ok.hd hc
      refine made hh (apart t1.heap.objs.size a b la lb) J k1 ⟨.inl ⟨k1, _, _, k3⟩, k2, itM_0 k4, itM_0 k5, ⟨_, k3⟩⟩ (fun c hcm => ?_) sx sy hz fun s' H' ts' g n J' => ⟨V.ref h'.objs.size, _, J', rfl, q _ _ _ g n⟩
      have le : t1.heap.objs.size ≤ c := by
        have m : c = t1.heap.objs.size + 4 ∨ c = t1.heap.objs.size + 2 ∨ c = t1.heap.objs.size + 3 ∨ c = t1.heap.objs.size ∨ c = t1.heap.objs.size + 1 := by simpa using hcm
        rcases m with e | e | e | e | e <;> rw [e] <;> first | exact Nat.le_refl _ | exact Nat.le_add_right _ _
      exact I1.fpOk le (I1.hok.fresh le)
end LZ
/-! ### enumerate of a list or a tuple -/
def IteM (b : Bool) (K : PySem.W.Frag) (a : Addr) : L2.It where
  go i H := ∃ (xs : List V) (x : V), SqM b K H a xs ∧ xs[i]? = some x
  yld i H v H' := ∃ T x, v = .ref T ∧ H T = none ∧ H' = upd H T (.tup [.int (i : Nat), x]) ∧ ∀ xs, SqM b K H a xs → xs[i]? = some x
  stop i H := ∃ xs : List V, SqM b K H a xs ∧ xs.length = i
theorem turn_enumM {P : Program} {w : World} {K : PySem.W.Frag} {elts : List Expr} {kk : Nat} {tpos : Pos} {b : Bool} {a e it : Addr} (hne : e ≠ it) (hea : e ≠ a) (hai : a ≠ it) :
    Turn P w K (.Tuple elts kk tpos) (IteM b K a) [e, it] e (fun i h => (∃ old, IsEnum h e it ((i : Nat) : Int) old) ∧ ItM b h it a i) where
  mem := by simp
  obj := fun i h st c hc => by
    obtain ⟨⟨old, k1⟩, k2⟩ := st
    have m : c = e ∨ c = it := by simpa using hc
    rcases m with rfl | rfl
    · exact ⟨_, k1, fun v q => nomatch q⟩
    · exact itM_obj k2
  keep := fun i h h' st k => by
    obtain ⟨⟨old, k1⟩, k2⟩ := st
    exact ⟨⟨old, k e (by simp) _ k1⟩, itM_at k2 fun o q => k it (by simp) o q⟩
  item := by
    intro X e1 e2 e3 hc i pins s σ H E I hf st hg
    subst e1 e2 e3
    obtain ⟨⟨old, k1⟩, k2⟩ := st
    obtain ⟨xs, x, sx, hx⟩ := hg
    obtain ⟨its, rv, p, _⟩ := inv_sqM I sx
    obtain ⟨u, hu, ru⟩ := rv.get hx
    have el : e < s.heap.objs.size := Heap.lt_size k1
    have g1 : its.toArray[i]? = some u := by simpa using hu
    have l1 : i < its.toArray.size := (Array.getElem?_eq_some_iff.mp g1).1
    have hh : X.A.in1.handled = none := I.ok.hd hc
    have nf : e ∉ [it, a] := fun m => by
      rcases List.mem_cons.mp m with q | q
      · exact hne q
      · exact hea (List.mem_singleton.mp q)
    refine wpAny_pyNext_enum_itemD (drawM b hh it a hai its.toArray) k1 ⟨k2, p⟩ l1 hne nf fun v h' tk f1 m1 m2 m3 m4 m5 => ?_
    have f1 : v = u := Option.some.inj (f1.symm.trans g1)
    subst f1
    refine ⟨_, rfl, wpAny_letOwnedTupleGo_enum (s := { s with heap := h', toks := tk + 1 }) m1 fun h2 r1 sb => ?_⟩
    have t2 : h2.get? s.heap.objs.size = some { cls := .type "tuple", data := .seq #[.int i tk, v] } := (sb.2 _ (Nat.ne_of_gt el)).trans m3
    have nw : ObjOk X.prog X.w (upd H s.heap.objs.size (.tup [.int (i : Nat), x])) h2 s.heap.objs.size (.tup [.int (i : Nat), x]) := ⟨by show 2 ≤ sizeLine; decide, [.int i tk, v], .cons ⟨_, rfl⟩ (.cons ru .nil), ⟨_, t2, rfl, _, rfl⟩⟩
    have J1 : Inv X pins σ (upd H s.heap.objs.size (.tup [.int (i : Nat), x])) { s with heap := h2, toks := tk + 1 } :=
      I.turnedNew (ch := [e, it]) (fun c o hb q => (sb.2 c (fun j => hb (by simp [j]))).trans (m5 c o (fun j => hb (by simp [j])) (fun j => hb (by simp [j])) q)) hf (Nat.le_refl _) nw
    refine ⟨.ref s.heap.objs.size, _, J1, rfl, ⟨_, x, rfl, I.hok.fresh (Nat.le_refl _), rfl, fun l hl => by rw [inj_sqM I hl sx]; exact hx⟩, ⟨⟨v, ?_⟩, itM_at m2.1 fun o q => (sb.2 _ (Ne.symm hne)).trans q⟩, fun c hcm => ?_⟩
    · have z : ((i + 1 : Nat) : Int) = (i : Int) + 1 := by omega
      rw [z]
      exact r1
    · have lt : c < s.heap.objs.size := by
        have m : c = e ∨ c = it := by simpa using hcm
        rcases m with rfl | rfl
        · exact el
        · obtain ⟨_, e1, _⟩ := itM_obj k2; exact Heap.lt_size e1
      rw [upd_ne (Nat.ne_of_lt lt)]
      exact (hf c hcm).1
  done := by
    intro X e1 e2 e3 hc i pins s σ H E I hf st hg
    subst e1 e2 e3
    obtain ⟨⟨old, k1⟩, k2⟩ := st
    obtain ⟨xs, sx, j1⟩ := hg
    obtain ⟨its, rv, p, _⟩ := inv_sqM I sx
    have l1 : its.toArray.size = i := by rw [← j1, rv.length]; rfl
    have hh : X.A.in1.handled = none := I.ok.hd hc
    have k2' : ItM b s.heap it a its.toArray.size := by rw [l1]; exact k2
    refine wpAny_pyNext_enum_endD (drawM b hh it a hai its.toArray) k1 ⟨k2', p⟩ fun h' eb => ⟨rfl, I.turnedL (t' := s.toks) (ch := [e, it]) (fun c o hb q => eb c o (fun j => hb (by simp [j])) q) hf⟩
  self := fun A i s Q E st h => let ⟨⟨_, he⟩, _⟩ := st; wpAny_pyIter_enum he h
set_option maxHeartbeats 4000000 in
theorem enew {v : Value} {o : Obj} {Hh : Heap → Prop} (B : Begins v o Hh) :
    Meets (Builtin.«enumerate.__new__» ⟨[.type "enumerate", v], []⟩) (fun _ R s => Hh s.heap ∧
      R (.ok (.ret (.ref (s.heap.push o).objs.size))) { s with heap := (s.heap.push o).push { cls := .type "enumerate", data := .fields #[.none, .bool false, .ref s.heap.objs.size, rawInt 0, .none, .none] } }) :=
  .of_wp fun prog w A R s h => by
    obtain ⟨hp, g, d, tk, os⟩ := s; obtain ⟨h1, h⟩ := h
    have hsub := sub_enumerate
    have q1 : ∀ {A' : Around} {E : Value → Shared → Prop} {Q : Value → Shared → Prop}, Q (.ref hp.objs.size) ⟨hp.push o, g, d, tk, os⟩ → wpAny (model prog w) A' (pyIter v) Q E ⟨hp, g, d, tk, os⟩ := fun q => B.iter prog w _ _ ⟨hp, g, d, tk, os⟩ _ h1 q
    wp_walk using q1
    refine wpAny_stack_any fun st => wpAny_pure ?_
    split
    · rename_i c _ _ _ _ _
      cases (c == Value.type "enumerate") <;> wp_walk using q1 <;> exact ⟨_, rfl, h⟩
    · wp_walk using q1
      exact ⟨_, rfl, h⟩
theorem enumB {prog : Program} {w : World} {A : Around} {E : Value → Shared → Prop} {s : Shared} {v : Value} {o : Obj} {Hh : Heap → Prop} {Q : Value → Shared → Prop} (B : Begins v o Hh) (h1 : Hh s.heap)
    (h : ∀ h', IsEnum h' (s.heap.objs.size + 1) s.heap.objs.size 0 .none → h'.get? s.heap.objs.size = some o → h'.objs.size = s.heap.objs.size + 2 → (∀ b o, s.heap.get? b = some o → h'.get? b = some o) → Q (.ref (s.heap.objs.size + 1)) { s with heap := h' }) :
    wpAny (model prog w) A (call (.type "enumerate") [v]) Q E s := by
  refine callType_new F.called_enumerate (by decide) (F.typeCall_enumerate_1 _) (F.newCall_enumerate_1 _) (fun obj => F.args_object_init_2 obj _) F.entry_enumerate_new (enew B) ⟨h1, ?_⟩
  have zz : (s.heap.push o).objs.size = s.heap.objs.size + 1 := Heap.size_push ..
  show _ ∧ _
  rw [zz]
  have he : IsEnum ((s.heap.push o).push { cls := .type "enumerate", data := .fields #[.none, .bool false, .ref s.heap.objs.size, rawInt 0, .none, .none] }) (s.heap.objs.size + 1) s.heap.objs.size 0 .none := by
    have q := Heap.get?_push_size (s.heap.push o) (o := { cls := .type "enumerate", data := .fields #[.none, .bool false, .ref s.heap.objs.size, rawInt 0, .none, .none] }) rfl
    rw [zz] at q
    exact q
  exact ⟨⟨_, he, rfl⟩, h _ he (Heap.get?_push_of_some _ (Heap.get?_push_size _ B.free)) (by rw [Heap.size_push, zz]) fun b o x => Heap.get?_push_of_some _ (Heap.get?_push_of_some _ x)⟩
def iEnumM (b : Bool) (K : PySem.W.Frag) (ta : TA) : TI := fun σ H R => ta σ H fun vs H1 => ∃ a xs, vs = [.ref a] ∧ SqM b K H1 a xs ∧ R (IteM b K a) H1
theorem pi_enumM {X : Cx} {b : Bool} {e : Expr} {ta : TA} {p pos tpos : Pos} {elts : List Expr} {kk : Nat} (hg : Gl X "enumerate") (hm : X.mg "enumerate" = none) (ha : PA X [e] ta) (hs : starEach [e] X.env = [(false, eval e X.env)]) :
    PI X (.Tuple elts kk tpos) (.Call (.Name "enumerate" p) [e] [] pos) (iEnumM b X.K ta) := by
  refine ⟨fun pins s σ H R I h => ?_⟩
  refine Call_ (ld_blt I hg hm boot_enumerate (PyProof.Rows.callWith_type1 (thn (ha.run pos pins s σ H _ I h) fun us t1 ⟨vs, H1, I1, r1, q1⟩ => ?_) hs rfl))
  obtain ⟨a, xs, rfl, sx, q⟩ := q1
  cases r1 with
  | cons r rr =>
    cases rr
    cases r
    obtain ⟨its, rv, p1, la⟩ := inv_sqM I1 sx
    refine enumB (beginM b a its.toArray) p1 fun h' k1 k4 k6 k7 => wpAny_pyIter_enum k1 ?_
    have J : Inv X pins σ H1 { t1 with heap := h' } := I1.kept (t' := t1.toks) k7
    refine ⟨t1.heap.objs.size + 1, [t1.heap.objs.size + 1, t1.heap.objs.size], _, _, H1, rfl, J, turn_enumM (Nat.succ_ne_self _) (Nat.ne_of_gt (Nat.lt_succ_of_lt la)) (Nat.ne_of_lt la), ⟨⟨.none, k1⟩, itM_0 k4⟩, fun c hcm => ?_, q⟩
    have le : t1.heap.objs.size ≤ c := by
      have m : c = t1.heap.objs.size + 1 ∨ c = t1.heap.objs.size := by simpa using hcm
      rcases m with e | e <;> rw [e] <;> first | exact Nat.le_refl _ | exact Nat.le_add_right _ _
    exact I1.fpOk le (I1.hok.fresh le)
end PF

/-! PF, eighth part: targets, what loops walk, list comprehensions. -/
namespace PF
open PySem PySem.Spec PyProof.Rows L2
def WG (X : Cx) (tg : Expr) : TG := fun v σ H Q => ∀ (pins : List (Addr × Obj)) (s : Shared) (u : Value), Inv X pins σ H s → RelV v u → wpAny (model X.prog X.w) X.A (assign tg X.env u) (fun _ s' => ∃ σ' H', Inv X pins σ' H' s' ∧ Q σ' H') X.xe s
def WGs (X : Cx) (ts : List Expr) : TGs := fun vs σ H Q => ∀ (pins : List (Addr × Obj)) (s : Shared) (us : List Value), Inv X pins σ H s → Vals vs us → wpAny (model X.prog X.w) X.A (assignInOrder ((assignEach ts X.env).map (·.2)) us) (fun _ s' => ∃ σ' H', Inv X pins σ' H' s' ∧ Q σ' H') X.xe s
def WI (X : Cx) (tg iter : Expr) : TI := fun σ H R => ∀ (pins : List (Addr × Obj)) (s : Shared), Inv X pins σ H s → wpAny (model X.prog X.w) X.A (eval iter X.env) (fun v s1 => wpAny (model X.prog X.w) X.A (pyIter v) (PIE X pins σ tg R) X.xe s1) X.xe s
section
variable {X : Cx} {tg iter : Expr} {σ : L2.St} {H : Hp}
theorem wg_pg : PG X tg (WG X tg) := ⟨fun pins s σ H v u Q I r h => h pins s u I r⟩
theorem wgs_pgs {ts : List Expr} : PGs X ts (WGs X ts) := ⟨fun pins s σ H vs us Q I r h => h pins s us I r⟩
theorem wi_pi : PI X tg iter (WI X tg iter) := ⟨fun pins s σ H R I h => h pins s I⟩
theorem pg_wg {t : TG} {v : V} {Q : L2.St → Hp → Prop} (h : PG X tg t) (q : t v σ H Q) : WG X tg v σ H Q := fun pins s u I r => h.run pins s σ H v u Q I r q
theorem pgs_wgs {ts : List Expr} {t : TGs} {vs : List V} {Q : L2.St → Hp → Prop} (h : PGs X ts t) (q : t vs σ H Q) : WGs X ts vs σ H Q := fun pins s us I r => h.run pins s σ H vs us Q I r q
theorem pi_wi {t : TI} {R : L2.It → Hp → Prop} (h : PI X tg iter t) (q : t σ H R) : WI X tg iter σ H R := fun pins s I => h.run pins s σ H R I q
end
mutual
def T.slots : T → List Nat
  | .nm i => [i]
  | .tp ts => ts.slots
def Ts.slots : Ts → List Nat
  | .nil => []
  | .cons t ts => t.slots ++ ts.slots
end
section
variable (X : Cx)
/-- a target is bound to frozen data -/
def SG (t : T) (tg : Expr) : Prop := ∀ (d : D) (ρ ρ' : Env), bindT t d ρ = some ρ' → ∀ (σ : L2.St) (H Hf : Hp) (α : An) (τ : List OA) (v : V), Rel σ ρ α → WR X.K Hf H (tr α ++ τ) → Dp X.K Hf v d → ∀ Q : L2.St → Hp → Prop,
  (∀ (σ' : L2.St) (α' : An), Rel σ' ρ' α' → WR X.K Hf H (tr α' ++ τ) → (∀ i, i ∉ t.slots → σ'[i]? = σ[i]?) → Q σ' H) → WG X tg v σ H Q
def SGs (t : Ts) (tgs : List Expr) : Prop := ∀ (ds : List D) (ρ ρ' : Env), bindTs t ds ρ = some ρ' → ∀ (σ : L2.St) (H Hf : Hp) (α : An) (τ : List OA) (vs : List V), Rel σ ρ α → WR X.K Hf H (tr α ++ τ) → DpAll X.K Hf vs ds → ∀ Q : L2.St → Hp → Prop,
  (∀ (σ' : L2.St) (α' : An), Rel σ' ρ' α' → WR X.K Hf H (tr α' ++ τ) → (∀ i, i ∉ t.slots → σ'[i]? = σ[i]?) → Q σ' H) → WGs X tgs vs σ H Q
end
theorem asg_ok {e : Expr} (h : kindOk e = true) (es : List Expr) (env : PySem.Env) : assignEach (e :: es) env = (false, assign e env) :: assignEach es env := by
  cases e <;> first | rfl | cases h
theorem asg_len {env : PySem.Env} : ∀ {es : List Expr}, kindOks es = true → (assignEach es env).length = es.length ∧ (assignEach es env).findIdx? (·.1) = none
  | [], _ => ⟨rfl, rfl⟩
  | e :: es, h => by
    have z := Bool.and_eq_true_iff.mp (show (kindOk e && es.all kindOk) = true from h)
    obtain ⟨a, b⟩ := asg_len (env := env) (es := es) z.2
    rw [asg_ok z.1]
    refine ⟨by rw [List.length_cons, List.length_cons, a], ?_⟩
    rw [List.findIdx?_cons]
    simp [b]
def locC (sc : Scope) (x : Str) : Bool := match sc.names.lookup x with
  | some .local => true
  | some .cell => true
  | _ => false
section
variable {X : Cx} {G : Prg} {C : Ctx} {n : Nat} {sc : Scope} {N : List Str}
theorem Cn.loc (hc : Cn X G C n sc N) {x : Str} (h : locC sc x = true) : Loc X.env.scope x ∧ (X.fn x = true ∨ X.env.scope.names.lookup x = some .local) := by
  unfold locC at h
  split at h
  · rename_i e
    have := hc.lk x _ e (by decide)
    exact ⟨.inl this, .inr this⟩
  · rename_i e
    exact ⟨.inr (hc.lk x _ e (by decide)), .inl (hc.fn x e)⟩
  · cases h
theorem sg_nm (hc : Cn X G C n sc N) {i : Nat} {x : Str} {pos : Pos} (hi : N[i]? = some x) (hl : locC sc x = true) : SG X (.nm i) (.Name x pos) := by
  intro d ρ ρ' he σ H Hf α τ v R w hd Q q
  cases he
  refine pg_wg (pg_name (i := i) (by rw [hc.hN]; exact hc.nd) (by rw [hc.hN]; exact hi) (hc.loc hl).1 (hc.loc hl).2) ?_
  refine q _ _ (R.set i (.fz v d)) (w.addF hd).store fun j hj => ?_
  have : i ≠ j := fun e => hj (by rw [e]; exact List.mem_cons_self)
  exact List.getElem?_set_ne this
theorem sgs_nil : SGs X .nil [] := by
  intro ds ρ ρ' he σ H Hf α τ vs R w hd Q q
  cases ds with
  | nil =>
    cases he
    cases hd
    exact pgs_wgs pgs_nil ⟨rfl, q σ α R w fun _ _ => rfl⟩
  | cons d ds => cases he
theorem sgs_cons {t : T} {ts : Ts} {e : Expr} {es : List Expr} (h1 : SG X t e) (h2 : SGs X ts es) (hk : kindOk e = true) : SGs X (.cons t ts) (e :: es) := by
  intro ds ρ ρ' he σ H Hf α τ vs R w hd Q q
  cases hd with
  | nil => cases he
  | cons a b =>
    rename_i v vs d ds
    obtain ⟨ρ1, e1, e2⟩ := b1_inv he
    refine pgs_wgs (pgs_cons wg_pg wgs_pgs (by rw [asg_ok hk]; rfl)) ⟨v, vs, rfl, ?_⟩
    refine h1 d ρ ρ1 e1 σ H Hf α τ v R w a _ fun σ1 α1 R1 w1 k1 => ?_
    refine h2 ds ρ1 ρ' e2 σ1 H Hf α1 τ vs R1 w1 b _ fun σ2 α2 R2 w2 k2 => ?_
    refine q σ2 α2 R2 w2 fun i hi => ?_
    rw [k2 i fun z => hi (List.mem_append_right _ z), k1 i fun z => hi (List.mem_append_left _ z)]
def Ts.len : Ts → Nat
  | .nil => 0
  | .cons _ ts => ts.len + 1
theorem bindTs_len : ∀ {ts : Ts} {ds : List D} {ρ ρ' : Env}, bindTs ts ds ρ = some ρ' → ds.length = ts.len
  | .nil, [], _, _, _ => rfl
  | .nil, _ :: _, _, _, h => by cases h
  | .cons t ts, [], _, _, h => by cases h
  | .cons t ts, d :: ds, _, _, h => by
    obtain ⟨ρ1, e1, e2⟩ := b1_inv h
    rw [List.length_cons, bindTs_len e2]; rfl
theorem sg_tp (hc : Cn X G C n sc N) {ts : Ts} {es : List Expr} {k : Nat} {pos : Pos} (h : SGs X ts es) (hk : kindOks es = true) (hl : ts.len = es.length) : SG X (.tp ts) (.Tuple es k pos) := by
  intro d ρ ρ' he σ H Hf α τ v R w hd Q q
  cases d with
  | tuple ds =>
    obtain ⟨a, xs, rfl, hs, ha⟩ := dp_tuple hd
    refine pg_wg (pg_tup hc.calm wgs_pgs (asg_len hk).1 (asg_len hk).2) ⟨a, xs, rfl, sqt_same w.sub hs, by rw [dpa_len ha, bindTs_len (ts := ts) he]; exact hl, ?_⟩
    exact h ds ρ ρ' he σ H Hf α τ xs R w ha Q q
  | list ds =>
    obtain ⟨a, xs, rfl, hs, ha⟩ := dp_list hd
    refine pg_wg (pg_unl hc.calm wgs_pgs (asg_len hk).1 (asg_len hk).2) ⟨a, xs, rfl, Same.seq w.sub hs, by rw [dpa_len ha, bindTs_len (ts := ts) he]; exact hl, ?_⟩
    exact h ds ρ ρ' he σ H Hf α τ xs R w ha Q q
  | _ => cases he
/-! ### what is walked -/
/-- the i-th datum comes: as it stands, or as a new tuple of frozen things -/
def YD (K : PySem.W.Frag) (Hf : Hp) (ds : List D) : Nat → Hp → V → Hp → Prop := fun i H x H' => ∃ d, ds[i]? = some d ∧
  ((H' = H ∧ Dp K Hf x d) ∨ ∃ (T : Addr) (vs : List V) (es : List D), x = .ref T ∧ H T = none ∧ H' = upd H T (.tup vs) ∧ d = .tuple es ∧ DpAll K Hf vs es)
abbrev WalkD (K : PySem.W.Frag) (Hf : Hp) (J : L2.It) (ds : List D) : Prop := Walk J ds.length (fun H => Same Hf H) (YD K Hf ds)
def SI (X : Cx) (C : Ctx) (it : It) (tg iter : Expr) : Prop := ∀ (ρ : Env) (ds : List D) (ρ' : Env), evI C it ρ = some (ds, ρ') → ∀ (σ : L2.St) (H Hf : Hp) (α : An) (τ : List OA), Rel σ ρ α → WR X.K Hf H (tr α ++ τ) → ∀ R : L2.It → Hp → Prop,
  (∀ (H' Hf' : Hp) (α' : An) (J : L2.It), Same Hf Hf' → Rel σ ρ' α' → WR X.K Hf' H' (tr α' ++ τ) → WalkD X.K Hf' J ds → R J H') → WI X tg iter σ H R
theorem walkD_list {K : PySem.W.Frag} {Hf : Hp} {a : Addr} {xs : List V} {ds : List D} (h : SqL K Hf a xs) (ha : DpAll K Hf xs ds) : WalkD K Hf (Itl K a) ds := by
  unfold WalkD
  rw [← dpa_len ha]
  refine walk_list.mono (fun H s => Same.seq s h) fun i H x H' hi _ y => ?_
  obtain ⟨e, y⟩ := y
  obtain ⟨d, h1, h2⟩ := dpa_at ha y
  exact ⟨d, h1, .inl ⟨e, h2⟩⟩
theorem walkD_tup {K : PySem.W.Frag} {Hf : Hp} {a : Addr} {xs : List V} {ds : List D} (h : SqT K Hf a xs) (ha : DpAll K Hf xs ds) : WalkD K Hf (Itt K a) ds := by
  unfold WalkD
  rw [← dpa_len ha]
  refine walk_tup.mono (fun H s => sqt_same s h) fun i H x H' hi _ y => ?_
  obtain ⟨e, y⟩ := y
  obtain ⟨d, h1, h2⟩ := dpa_at ha y
  exact ⟨d, h1, .inl ⟨e, h2⟩⟩
theorem rangeD_len (lo : Int) (k : Nat) : (rangeD lo k).length = k := by
  unfold rangeD
  rw [List.length_map, List.length_range]
theorem walkD_range {K : PySem.W.Frag} {Hf : Hp} {lo : Int} {k : Nat} : WalkD K Hf (Itr lo k) (rangeD lo k) := by
  unfold WalkD
  rw [rangeD_len]
  refine walk_range.mono (fun _ _ => trivial) fun i H x H' hi _ y => ?_
  obtain ⟨e, y⟩ := y
  refine ⟨.int (lo + (i : Nat)), ?_, .inl ⟨e, by rw [y]; exact .int _⟩⟩
  unfold rangeD
  rw [List.getElem?_map, List.getElem?_range hi]
  rfl
theorem walkD_str {K : PySem.W.Frag} {Hf : Hp} {z : Str} : WalkD K Hf (Its z) (chars z) := by
  unfold WalkD chars
  rw [List.length_map, Array.length_toList]
  refine walk_str.mono (fun _ _ => trivial) fun i H x H' hi _ y => ?_
  obtain ⟨e, c, h1, h2⟩ := y
  refine ⟨.str ⟨#[c]⟩, ?_, .inl ⟨e, by rw [h2]; exact .str _⟩⟩
  rw [List.getElem?_map, Array.getElem?_toList, h1]
  rfl
theorem enumD_at : ∀ (ds : List D) (k i : Nat) (d : D), ds[i]? = some d → (enumD k ds)[i]? = some (.tuple [.int ((k + i : Nat) : Int), d])
  | [], _, _, _, h => by simp at h
  | e :: ds, k, 0, d, h => by
    have z : e = d := by simpa using h
    subst z
    rfl
  | e :: ds, k, i + 1, d, h => by
    show (enumD (k + 1) ds)[i]? = _
    rw [enumD_at ds (k + 1) i d (by simpa using h)]
    have : k + 1 + i = k + (i + 1) := by omega
    rw [this]
theorem enumD_len : ∀ (ds : List D) (k : Nat), (enumD k ds).length = ds.length
  | [], _ => rfl
  | e :: ds, k => by
    show (enumD (k + 1) ds).length + 1 = ds.length + 1
    rw [enumD_len ds (k + 1)]
theorem walk_enumM {b : Bool} {K : PySem.W.Frag} {a : Addr} {xs : List V} : Walk (IteM b K a) xs.length (fun H => SqM b K H a xs) (YPair (fun i => some (.int (i : Nat))) (fun i => xs[i]?)) := by
  refine ⟨fun i _ hi q => ⟨xs, xs[i], q, by simp [hi]⟩, fun _ q => ⟨xs, q, rfl⟩, fun i H v H' _ q y => ?_⟩
  obtain ⟨T, x, h1, h2, h3, h4⟩ := y
  exact ⟨T, .int (i : Nat), x, h1, h2, h3, rfl, h4 xs q⟩
theorem walkD_enum {b : Bool} {K : PySem.W.Frag} {Hf : Hp} {a : Addr} {xs : List V} {ds : List D} (h : SqM b K Hf a xs) (ha : DpAll K Hf xs ds) : WalkD K Hf (IteM b K a) (enumD 0 ds) := by
  unfold WalkD
  rw [enumD_len, ← dpa_len ha]
  refine walk_enumM.mono (fun H s => sqM_same s h) fun i H x H' hi _ y => ?_
  obtain ⟨T, u, v, h1, h2, h3, h4, h5⟩ := y
  obtain ⟨d, g1, g2⟩ := dpa_at ha h5
  refine ⟨_, enumD_at ds 0 i d g1, .inr ⟨T, [u, v], _, h1, h2, h3, rfl, .cons ?_ (.cons g2 .nil)⟩⟩
  have e : V.int (i : Nat) = u := by simpa using h4
  rw [← e, Nat.zero_add]
  exact .int _
theorem zipD_at {xs ys : List D} {i : Nat} {x y : D} (h1 : xs[i]? = some x) (h2 : ys[i]? = some y) : (zipD xs ys)[i]? = some (.tuple [x, y]) := by
  unfold zipD
  rw [List.getElem?_zipWith, h1, h2]
theorem dp_seqM {K : PySem.W.Frag} {H : Hp} {v : V} {d : D} {b : Bool} {ds : List D} (h : Dp K H v d) (e : seqD d = some (b, ds)) : ∃ a xs, v = .ref a ∧ SqM b K H a xs ∧ DpAll K H xs ds := by
  cases d with
  | list xs => cases e; exact dp_list h
  | tuple xs => cases e; exact dp_tuple h
  | _ => cases e
theorem walk_zipM {b1 b2 : Bool} {K : PySem.W.Frag} {a b : Addr} {xs ys : List V} {n : Nat} (hn : n = min xs.length ys.length) : Walk (ItzM b1 b2 K a b) n (fun H => SqM b1 K H a xs ∧ SqM b2 K H b ys) (YPair (fun i => xs[i]?) (fun i => ys[i]?)) := by
  subst hn
  refine ⟨fun i _ hi q => ?_, fun _ q => ⟨xs, ys, q.1, q.2, by omega⟩, fun i H v H' _ q y => ?_⟩
  · have h1 : i < xs.length := by omega
    have h2 : i < ys.length := by omega
    exact ⟨xs, ys, xs[i], ys[i], q.1, q.2, by simp [h1], by simp [h2]⟩
  · obtain ⟨T, x, z, h1, h2, h3, h4, h5⟩ := y
    exact ⟨T, x, z, h1, h2, h3, h4 xs q.1, h5 ys q.2⟩
theorem walkD_zipM {b1 b2 : Bool} {K : PySem.W.Frag} {Hf : Hp} {a b : Addr} {xs ys : List V} {ds es : List D} (h : SqM b1 K Hf a xs) (g : SqM b2 K Hf b ys) (ha : DpAll K Hf xs ds) (hb : DpAll K Hf ys es) : WalkD K Hf (ItzM b1 b2 K a b) (zipD ds es) := by
  unfold WalkD
  have e : (zipD ds es).length = min xs.length ys.length := by
    unfold zipD
    rw [List.length_zipWith, dpa_len ha, dpa_len hb]
  refine (walk_zipM e).mono (fun H s => ⟨sqM_same s h, sqM_same s g⟩) fun i H x H' hi _ y => ?_
  obtain ⟨T, u, v, h1, h2, h3, h4, h5⟩ := y
  obtain ⟨d, g1, g2⟩ := dpa_at ha h4
  obtain ⟨d', g1', g2'⟩ := dpa_at hb h5
  exact ⟨_, zipD_at g1 g1', .inr ⟨T, [u, v], _, h1, h2, h3, rfl, .cons g2 (.cons g2' .nil)⟩⟩
theorem si_seq {a : E} {ea tg : Expr} (ha : SE X C a ea) : SI X C (.seq a) tg ea := by
  intro ρ ds ρ' he σ H Hf α τ R w Q q
  obtain ⟨x, ρ1, e1, he⟩ := bd_inv he
  cases hx : x.d with
  | list es =>
    rw [hx] at he
    cases he
    refine pi_wi (pi_list we_pe) ?_
    refine one ha e1 R w _ fun H1 Hf1 α1 u s1 R1 w1 du => ?_
    rw [hx] at du
    obtain ⟨p, xs, rfl, hs, da⟩ := dp_list du
    exact ⟨p, rfl, ⟨xs, Same.seq w1.sub hs⟩, q H1 Hf1 α1 _ s1 R1 w1 (walkD_list hs da)⟩
  | tuple es =>
    rw [hx] at he
    cases he
    refine pi_wi (pi_tup we_pe) ?_
    refine one ha e1 R w _ fun H1 Hf1 α1 u s1 R1 w1 du => ?_
    rw [hx] at du
    obtain ⟨p, xs, rfl, hs, da⟩ := dp_tuple du
    exact ⟨p, rfl, ⟨xs, sqt_same w1.sub hs⟩, q H1 Hf1 α1 _ s1 R1 w1 (walkD_tup hs da)⟩
  | str z =>
    rw [hx] at he
    cases he
    refine pi_wi (pi_str we_pe) ?_
    refine one ha e1 R w _ fun H1 Hf1 α1 u s1 R1 w1 du => ?_
    rw [hx] at du
    exact ⟨z, dp_str du, q H1 Hf1 α1 _ s1 R1 w1 walkD_str⟩
  | _ => rw [hx] at he; cases he
theorem rngOk_inv {i : Int} (h : rngOk i = true) : -(2 ^ 62) ≤ i ∧ i < 2 ^ 62 := by
  have z := Bool.and_eq_true_iff.mp h
  exact ⟨of_decide_eq_true z.1, of_decide_eq_true z.2⟩
theorem blts_range : ("range" : Str) ∈ blts := by decide +kernel
theorem blts_enum : ("enumerate" : Str) ∈ blts := by decide +kernel
theorem blts_zip : ("zip" : Str) ∈ blts := by decide +kernel
theorem si_rng1 (hc : Cn X G C n sc N) {a : E} {ea tg : Expr} {p pos : Pos} (ha : SE X C a ea) (hk : kindOk ea = true) (hg : glC sc "range" = true) : SI X C (.rng1 a) tg (.Call (.Name "range" p) [ea] [] pos) := by
  intro ρ ds ρ' he σ H Hf α τ R w Q q
  obtain ⟨x, ρ1, e1, he⟩ := bd_inv he
  cases hx : x.d with
  | int i =>
    rw [hx] at he
    obtain ⟨e2, he⟩ := gd_inv he
    cases he
    refine pi_wi (pi_range1 (hc.gl hg) (hc.pr.free _ blts_range) (pa_cons we_pe pa_nil (star_ok hk _ _)) (star_ok hk _ _)) ?_
    refine one ha e1 R w _ fun H1 Hf1 α1 u s1 R1 w1 du => ?_
    rw [hx] at du
    exact ⟨i, by rw [dp_int du], (rngOk_inv e2).1, (rngOk_inv e2).2, q H1 Hf1 α1 _ s1 R1 w1 walkD_range⟩
  | _ => rw [hx] at he; cases he
theorem si_rng2 (hc : Cn X G C n sc N) {a b : E} {ea eb tg : Expr} {p pos : Pos} (ha : SE X C a ea) (hb : SE X C b eb) (hk : kindOk ea = true) (hk2 : kindOk eb = true) (hg : glC sc "range" = true) : SI X C (.rng2 a b) tg (.Call (.Name "range" p) [ea, eb] [] pos) := by
  intro ρ ds ρ' he σ H Hf α τ R w Q q
  obtain ⟨x, ρ1, e1, he⟩ := bd_inv he
  obtain ⟨y, ρ2, e2, he⟩ := bd_inv he
  cases hx : x.d with
  | int i =>
    cases hy : y.d with
    | int j =>
      rw [hx, hy] at he
      obtain ⟨e3, he⟩ := gd_inv he
      cases he
      have z := Bool.and_eq_true_iff.mp e3
      refine pi_wi (pi_range2 (hc.gl hg) (hc.pr.free _ blts_range) (pa_cons we_pe (pa_cons we_pe pa_nil (star_ok hk2 _ _)) (star_ok hk _ _)) (by rw [star_ok hk, star_ok hk2]; rfl) (star_ok hk2 _ _)) ?_
      refine two ha hb e1 e2 R w _ fun H1 Hf1 α1 u v s1 R1 w1 du dv => ?_
      rw [hx] at du
      rw [hy] at dv
      exact ⟨i, j, by rw [dp_int du, dp_int dv], ⟨(rngOk_inv z.1).1, (rngOk_inv z.1).2, (rngOk_inv z.2).1, (rngOk_inv z.2).2⟩, q H1 Hf1 α1 _ s1 R1 w1 walkD_range⟩
    | _ => rw [hx, hy] at he; cases he
  | _ => rw [hx] at he; cases he
theorem si_enum (hc : Cn X G C n sc N) {a : E} {ea : Expr} {es : List Expr} {k : Nat} {p pos tp : Pos} (ha : SE X C a ea) (hk : kindOk ea = true) (hg : glC sc "enumerate" = true) : SI X C (.enum a) (.Tuple es k tp) (.Call (.Name "enumerate" p) [ea] [] pos) := by
  intro ρ ds ρ' he σ H Hf α τ R w Q q
  obtain ⟨x, ρ1, e1, he⟩ := bd_inv he
  obtain ⟨k1, xs, e4, he⟩ := bd_inv he
  cases he
  refine pi_wi (pi_enumM (b := k1) (hc.gl hg) (hc.pr.free _ blts_enum) (pa_cons we_pe pa_nil (star_ok hk _ _)) (star_ok hk _ _)) ?_
  refine one ha e1 R w _ fun H1 Hf1 α1 u s1 R1 w1 du => ?_
  obtain ⟨p, us, rfl, hs, da⟩ := dp_seqM du e4
  exact ⟨p, us, rfl, sqM_same w1.sub hs, q H1 Hf1 α1 _ s1 R1 w1 (walkD_enum hs da)⟩
theorem si_zip (hc : Cn X G C n sc N) {a b : E} {ea eb : Expr} {es : List Expr} {k : Nat} {p pos tp : Pos} (ha : SE X C a ea) (hb : SE X C b eb) (hk : kindOk ea = true) (hk2 : kindOk eb = true) (hg : glC sc "zip" = true) : SI X C (.zip a b) (.Tuple es k tp) (.Call (.Name "zip" p) [ea, eb] [] pos) := by
  intro ρ ds ρ' he σ H Hf α τ R w Q q
  obtain ⟨x, ρ1, e1, he⟩ := bd_inv he
  obtain ⟨y, ρ2, e2, he⟩ := bd_inv he
  have hz : (backTo pos (starEach [eb] X.env)).any (·.1) = false := stars_any (by show (kindOk eb && true) = true; rw [hk2]; rfl)
  obtain ⟨zs, e3, he⟩ := b1_inv he
  cases he
  obtain ⟨k1, xs, e4, e3⟩ := bd_inv e3
  obtain ⟨k2, ys, e5, e3⟩ := bd_inv e3
  cases e3
  refine pi_wi (pi_zipM (b1 := k1) (b2 := k2) (hc.gl hg) (hc.pr.free _ blts_zip) (pa_cons we_pe (pa_cons we_pe pa_nil (star_ok hk2 _ _)) (star_ok hk _ _)) (star_ok hk _ _) hz) ?_
  refine two ha hb e1 e2 R w _ fun H1 Hf1 α1 u v s1 R1 w1 du dv => ?_
  obtain ⟨p, us, rfl, hs, da⟩ := dp_seqM du e4
  obtain ⟨p2, vs, rfl, hs2, da2⟩ := dp_seqM dv e5
  exact ⟨p, p2, us, vs, rfl, sqM_same w1.sub hs, sqM_same w1.sub hs2, q H1 Hf1 α1 _ s1 R1 w1 (walkD_zipM hs hs2 da da2)⟩
theorem walk_zipM3 {b1 b2 b3 : Bool} {K : PySem.W.Frag} {a b c : Addr} {xs ys zs : List V} {n : Nat} (hn : n = min xs.length (min ys.length zs.length)) : Walk (ItzM3 b1 b2 b3 K a b c) n (fun H => SqM b1 K H a xs ∧ SqM b2 K H b ys ∧ SqM b3 K H c zs)
    (fun i H v H' => ∃ T x y z, v = .ref T ∧ H T = none ∧ H' = upd H T (.tup [x, y, z]) ∧ xs[i]? = some x ∧ ys[i]? = some y ∧ zs[i]? = some z) := by
  subst hn
  refine ⟨fun i _ hi q => ?_, fun _ q => ⟨xs, ys, zs, q.1, q.2.1, q.2.2, by omega⟩, fun i H v H' _ q y => ?_⟩
  · have h1 : i < xs.length := by omega
    have h2 : i < ys.length := by omega
    have h3 : i < zs.length := by omega
    exact ⟨xs, ys, zs, xs[i], ys[i], zs[i], q.1, q.2.1, q.2.2, by simp [h1], by simp [h2], by simp [h3]⟩
  · obtain ⟨T, x, z, u, h1, h2, h3, h4, h5, h6⟩ := y
    exact ⟨T, x, z, u, h1, h2, h3, h4 xs q.1, h5 ys q.2.1, h6 zs q.2.2⟩
theorem zipT3_at {xs ys zs : List D} {i : Nat} {x y z : D} (h1 : xs[i]? = some x) (h2 : ys[i]? = some y) (h3 : zs[i]? = some z) : (zipT3 xs ys zs)[i]? = some (.tuple [x, y, z]) := by
  have e : (xs.zip (ys.zip zs))[i]? = some (x, y, z) := List.getElem?_zip_eq_some.mpr ⟨h1, List.getElem?_zip_eq_some.mpr ⟨h2, h3⟩⟩
  unfold zipT3
  rw [List.getElem?_map, e]
  rfl
theorem walkD_zipM3 {b1 b2 b3 : Bool} {K : PySem.W.Frag} {Hf : Hp} {a b c : Addr} {xs ys zs : List V} {ds es fs : List D} (h : SqM b1 K Hf a xs) (g : SqM b2 K Hf b ys) (f : SqM b3 K Hf c zs) (ha : DpAll K Hf xs ds) (hb : DpAll K Hf ys es) (hf : DpAll K Hf zs fs) : WalkD K Hf (ItzM3 b1 b2 b3 K a b c) (zipT3 ds es fs) := by
  unfold WalkD
  have e : (zipT3 ds es fs).length = min xs.length (min ys.length zs.length) := by
    unfold zipT3
    rw [List.length_map, List.length_zip, List.length_zip, dpa_len ha, dpa_len hb, dpa_len hf]
  refine (walk_zipM3 e).mono (fun H s => ⟨sqM_same s h, sqM_same s g, sqM_same s f⟩) fun i H x H' hi _ y => ?_
  obtain ⟨T, u, v, t, h1, h2, h3, h4, h5, h6⟩ := y
  obtain ⟨d, g1, g2⟩ := dpa_at ha h4
  obtain ⟨d', g1', g2'⟩ := dpa_at hb h5
  obtain ⟨d'', g1'', g2''⟩ := dpa_at hf h6
  exact ⟨_, zipT3_at g1 g1' g1'', .inr ⟨T, [u, v, t], _, h1, h2, h3, rfl, .cons g2 (.cons g2' (.cons g2'' .nil))⟩⟩
theorem si_zip3 (hc : Cn X G C n sc N) {a b c : E} {ea eb ec : Expr} {es : List Expr} {k : Nat} {p pos tp : Pos} (ha : SE X C a ea) (hb : SE X C b eb) (hcc : SE X C c ec) (hk : kindOk ea = true) (hk2 : kindOk eb = true) (hk3 : kindOk ec = true) (hg : glC sc "zip" = true) : SI X C (.zip3 a b c) (.Tuple es k tp) (.Call (.Name "zip" p) [ea, eb, ec] [] pos) := by
  intro ρ ds ρ' he σ H Hf α τ R w Q q
  obtain ⟨x, ρ1, e1, he⟩ := bd_inv he
  obtain ⟨y, ρ2, e2, he⟩ := bd_inv he
  obtain ⟨z, ρ3, e3, he⟩ := bd_inv he
  have hz : (backTo pos (starEach [eb, ec] X.env)).any (·.1) = false := stars_any (by show (kindOk eb && (kindOk ec && true)) = true; rw [hk2, hk3]; rfl)
  obtain ⟨zs, e4, he⟩ := b1_inv he
  cases he
  obtain ⟨k1, xs, e5, e4⟩ := bd_inv e4
  obtain ⟨k2, ys, e6, e4⟩ := bd_inv e4
  obtain ⟨k3, us, e7, e4⟩ := bd_inv e4
  cases e4
  refine pi_wi (pi_zipM3 (b1 := k1) (b2 := k2) (b3 := k3) (hc.gl hg) (hc.pr.free _ blts_zip) (pa_cons we_pe (pa_cons we_pe (pa_cons we_pe pa_nil (star_ok hk3 _ _)) (star_ok hk2 _ _)) (star_ok hk _ _)) (star_ok hk _ _) hz) ?_
  refine two ha hb e1 e2 R w _ fun H1 Hf1 α1 u v s1 R1 w1 du dv => ?_
  refine one hcc e3 R1 w1 _ fun H2 Hf2 α2 t s2 R2 w2 dt => ?_
  obtain ⟨p, us, rfl, hs, da⟩ := dp_seqM (dp_same s2 du) e5
  obtain ⟨p2, vs, rfl, hs2, da2⟩ := dp_seqM (dp_same s2 dv) e6
  obtain ⟨p3, ts, rfl, hs3, da3⟩ := dp_seqM dt e7
  exact ⟨p, p2, p3, us, vs, ts, rfl, sqM_same w2.sub hs, sqM_same w2.sub hs2, sqM_same w2.sub hs3, q H2 Hf2 α2 _ (s1.trans s2) R2 w2 (walkD_zipM3 hs hs2 hs3 da da2 da3)⟩
end
end PF

/-! PF, ninth part: list comprehensions. -/
namespace PF
open PySem PySem.Spec PyProof.Rows L2
section
variable {K : PySem.W.Frag} {Hf H : Hp} {T : List OA} {a : Addr} {xs ys : List OA}
/-- a list of one's own taken apart -/
theorem WR.opened (w : WR K Hf H (.ol a xs :: T)) : WR K Hf H (xs ++ T) ∧ a ∉ OA.ass (xs ++ T) ∧ H a = some (.lst (xs.map OA.v)) ∧ Hf a = none := by
  have nd : (a :: OA.ass xs ++ OA.ass T).Nodup := w.nd
  rw [List.cons_append, ← OA.ass_app] at nd
  obtain ⟨n1, n2⟩ := List.nodup_cons.mp nd
  exact ⟨⟨w.sub, OA.oks_app.mpr ⟨w.ok.1.2.2, w.ok.2⟩, n2⟩, n1, w.ok.1.1, w.ok.1.2.1⟩
/-- .. and put together anew -/
theorem WR.closed (w : WR K Hf H (ys ++ T)) (nf : Hf a = none) (np : a ∉ OA.ass (ys ++ T)) : WR K Hf (upd H a (.lst (ys.map OA.v))) (.ol a ys :: T) := by
  have k : OA.oks K Hf (upd H a (.lst (ys.map OA.v))) (ys ++ T) := OA.oks_stay (Same.refl _) w.ok fun b hb => ⟨upd_ne fun e => np (e ▸ hb), (OA.oks_some w.ok b hb).2⟩
  refine ⟨same_updR w.sub nf, ⟨⟨upd_same, nf, (OA.oks_app.mp k).1⟩, (OA.oks_app.mp k).2⟩, ?_⟩
  show (a :: OA.ass ys ++ OA.ass T).Nodup
  rw [List.cons_append, ← OA.ass_app]
  exact List.nodup_cons.mpr ⟨np, w.nd⟩
theorem WR.append {y : OA} (w : WR K Hf H (y :: .ol a xs :: T)) : WR K Hf (upd H a (.lst (xs.map OA.v ++ [y.v]))) (.ol a (xs ++ [y]) :: T) := by
  have w1 : WR K Hf H (.ol a xs :: y :: T) := w.perm (List.Perm.swap _ _ _)
  obtain ⟨w2, n, _, nf⟩ := w1.opened
  have e : xs ++ y :: T = (xs ++ [y]) ++ T := by simp
  rw [e] at w2 n
  have w3 := w2.closed nf n
  rw [List.map_append] at w3
  exact w3
end
/-! ### a comprehension's own slots -/
def wipA (α : An) : List Nat → An
  | [] => α
  | i :: is => (wipA α is).set i none
def treeAt (α : An) (i : Nat) : List OA := match α[i]? with
  | some (some x) => [x]
  | _ => []
def keepT (α : An) : List Nat → List OA
  | [] => []
  | i :: is => treeAt α i ++ keepT α is
def backA (α α' : An) : List Nat → An
  | [] => α'
  | i :: is => backA α (α'.set i (jn α[i]?)) is
theorem wipA_ne {α : An} {i : Nat} : ∀ {is : List Nat}, i ∉ is → (wipA α is)[i]? = α[i]?
  | [], _ => rfl
  | j :: is, h => by
    show ((wipA α is).set j none)[i]? = _
    have ne : j ≠ i := fun e => h (e ▸ List.mem_cons_self)
    rw [List.getElem?_set_ne ne]
    exact wipA_ne fun z => h (List.mem_cons_of_mem _ z)
theorem set_none_id {α : An} {i : Nat} (h : ∀ x, α[i]? ≠ some (some x)) : α.set i none = α := by
  cases e : α[i]? with
  | none =>
    have := List.getElem?_eq_none_iff.mp e
    exact List.set_eq_of_length_le this
  | some o =>
    cases o with
    | none => exact set_id e
    | some x => exact absurd e (h x)
theorem keep_perm {α : An} : ∀ {is : List Nat}, is.Nodup → (tr α).Perm (keepT α is ++ tr (wipA α is))
  | [], _ => List.Perm.refl _
  | i :: is, h => by
    obtain ⟨n1, n2⟩ := List.nodup_cons.mp h
    have p := keep_perm (α := α) n2
    have e := wipA_ne (α := α) n1
    show (tr α).Perm ((treeAt α i ++ keepT α is) ++ tr ((wipA α is).set i none))
    unfold treeAt
    cases q : α[i]? with
    | none =>
      rw [set_none_id fun x z => by rw [e, q] at z; cases z]
      exact p
    | some o =>
      cases o with
      | none =>
        rw [set_none_id fun x z => by rw [e, q] at z; cases z]
        exact p
      | some x =>
        have p2 := tr_take (α := wipA α is) (i := i) (x := x) (by rw [e, q])
        have p3 := (p2.append_left (keepT α is))
        exact p.trans (p3.trans perm_mid)
theorem Rel.wip {σ : L2.St} {ρ : Env} {α : An} (R : Rel σ ρ α) : ∀ is : List Nat, Rel (L2.wipe σ is) (wipC ρ is) (wipA α is)
  | [] => R
  | i :: is => by
    have R1 := R.wip is
    refine ⟨?_, ?_, fun j x h => ?_⟩
    · show erase ((wipA α is).set i none) = (wipC ρ is).set i none
      rw [← R1.er]
      unfold erase
      rw [List.map_set]
      rfl
    · show ((L2.wipe σ is).set i none).length = ((wipA α is).set i none).length
      rw [List.length_set, List.length_set]
      exact R1.ln
    · show ((L2.wipe σ is).set i none)[j]? = _
      have h : ((wipA α is).set i none)[j]? = some (some x) := h
      by_cases e : i = j
      · subst e
        rw [List.getElem?_set] at h
        rw [if_pos rfl] at h
        split at h <;> cases h
      · rw [List.getElem?_set_ne e] at h ⊢
        exact R1.at_ j x h
theorem backE_get {ρ : Env} : ∀ {is : List Nat} {ρ' : Env} {j : Nat}, (backE ρ ρ' is)[j]? = if j ∈ is ∧ j < ρ'.length then some (jn ρ[j]?) else ρ'[j]?
  | [], ρ', j => by
    rw [if_neg fun h => absurd h.1 List.not_mem_nil]
    rfl
  | i :: is, ρ', j => by
    show (backE ρ (ρ'.set i (jn ρ[i]?)) is)[j]? = _
    rw [backE_get, List.length_set]
    by_cases h : j ∈ is ∧ j < ρ'.length
    · rw [if_pos h, if_pos ⟨List.mem_cons_of_mem _ h.1, h.2⟩]
    · rw [if_neg h]
      by_cases e : i = j
      · subst e
        by_cases hl : i < ρ'.length
        · rw [if_pos ⟨List.mem_cons_self, hl⟩, List.getElem?_set_self hl]
        · rw [if_neg fun z => hl z.2, List.getElem?_set, if_pos rfl, if_neg hl]
          exact (List.getElem?_eq_none (by omega)).symm
      · rw [List.getElem?_set_ne e]
        rw [if_neg fun z => h ⟨(List.mem_cons.mp z.1).resolve_left fun q => e q.symm, z.2⟩]
theorem backA_get {α : An} : ∀ {is : List Nat} {α' : An} {j : Nat}, (backA α α' is)[j]? = if j ∈ is ∧ j < α'.length then some (jn α[j]?) else α'[j]?
  | [], α', j => by
    rw [if_neg fun h => absurd h.1 List.not_mem_nil]
    rfl
  | i :: is, α', j => by
    show (backA α (α'.set i (jn α[i]?)) is)[j]? = _
    rw [backA_get, List.length_set]
    by_cases h : j ∈ is ∧ j < α'.length
    · rw [if_pos h, if_pos ⟨List.mem_cons_of_mem _ h.1, h.2⟩]
    · rw [if_neg h]
      by_cases e : i = j
      · subst e
        by_cases hl : i < α'.length
        · rw [if_pos ⟨List.mem_cons_self, hl⟩, List.getElem?_set_self hl]
        · rw [if_neg fun z => hl z.2, List.getElem?_set, if_pos rfl, if_neg hl]
          exact (List.getElem?_eq_none (by omega)).symm
      · rw [List.getElem?_set_ne e]
        rw [if_neg fun z => h ⟨(List.mem_cons.mp z.1).resolve_left fun q => e q.symm, z.2⟩]
theorem wipC_len {ρ : Env} : ∀ is : List Nat, (wipC ρ is).length = ρ.length
  | [] => rfl
  | i :: is => by
    show ((wipC ρ is).set i none).length = _
    rw [List.length_set, wipC_len is]
theorem wipC_ne {ρ : Env} {i : Nat} : ∀ {is : List Nat}, i ∉ is → (wipC ρ is)[i]? = ρ[i]?
  | [], _ => rfl
  | j :: is, h => by
    show ((wipC ρ is).set j none)[i]? = _
    have ne : j ≠ i := fun e => h (e ▸ List.mem_cons_self)
    rw [List.getElem?_set_ne ne]
    exact wipC_ne fun z => h (List.mem_cons_of_mem _ z)
theorem backA_len {α : An} : ∀ (is : List Nat) (α' : An), (backA α α' is).length = α'.length
  | [], _ => rfl
  | i :: is, α' => by
    show (backA α (α'.set i (jn α[i]?)) is).length = _
    rw [backA_len is, List.length_set]
theorem erase_get {α : An} {j : Nat} : (erase α)[j]? = α[j]?.map (Option.map OA.o) := by
  unfold erase
  rw [List.getElem?_map]
theorem jn_map {o : Option (Option OA)} : jn (o.map (Option.map OA.o)) = (jn o).map OA.o := by
  cases o with
  | none => rfl
  | some o => cases o <;> rfl
theorem Rel.backs {σ : L2.St} {ρ ρ2 : Env} {α α' : An} {is : List Nat} (R : Rel σ ρ α) (R2 : Rel (L2.wipe σ is) (wipC ρ2 is) α') : Rel σ (backE ρ ρ2 is) (backA α α' is) := by
  have l2 : α'.length = ρ2.length := by
    have := congrArg List.length R2.er
    rw [wipC_len] at this
    unfold erase at this
    rw [List.length_map] at this
    exact this
  refine ⟨?_, ?_, fun j x h => ?_⟩
  · apply List.ext_getElem?
    intro j
    rw [erase_get, backA_get, backE_get]
    by_cases h : j ∈ is ∧ j < α'.length
    · rw [if_pos h, if_pos ⟨h.1, by rw [← l2]; exact h.2⟩]
      show some ((jn α[j]?).map OA.o) = _
      rw [← R.er, erase_get, jn_map]
    · rw [if_neg h, if_neg fun z => h ⟨z.1, by rw [l2]; exact z.2⟩]
      by_cases hj : j ∈ is
      · have hl : ¬ j < α'.length := fun z => h ⟨hj, z⟩
        rw [List.getElem?_eq_none (by omega), List.getElem?_eq_none (by omega)]
        rfl
      · rw [← erase_get, R2.er, wipC_ne hj]
  · have := R2.ln
    rw [wipe_length] at this
    rw [backA_len]
    exact this
  · rw [backA_get] at h
    split at h
    · rename_i hj
      have e : jn α[j]? = some x := Option.some.inj h
      cases q : α[j]? with
      | none => rw [q] at e; cases e
      | some o =>
        rw [q] at e
        have e : o = some x := e
        subst e
        exact R.at_ j x q
    · exact (wipe_some (R2.at_ j x h)).1
theorem WR.backs {K : PySem.W.Frag} {Hf H : Hp} {α : An} {τ : List OA} : ∀ {is : List Nat} {α' : An}, WR K Hf H (keepT α is ++ (tr α' ++ τ)) → WR K Hf H (tr (backA α α' is) ++ τ)
  | [], _, w => w
  | i :: is, α', w => by
    show WR K Hf H (tr (backA α (α'.set i (jn α[i]?)) is) ++ τ)
    apply WR.backs (is := is)
    have w : WR K Hf H ((treeAt α i ++ keepT α is) ++ (tr α' ++ τ)) := w
    unfold treeAt at w
    have dropped : WR K Hf H (keepT α is ++ (tr α' ++ τ)) → WR K Hf H (keepT α is ++ (tr (α'.set i none) ++ τ)) := fun w => by
      have w1 : WR K Hf H (tr α' ++ (keepT α is ++ τ)) := w.perm (by
        rw [← List.append_assoc, ← List.append_assoc]
        exact List.Perm.append_right τ List.perm_append_comm)
      exact (w1.dropS (i := i)).perm (by
        rw [← List.append_assoc, ← List.append_assoc]
        exact List.Perm.append_right τ List.perm_append_comm)
    cases q : α[i]? with
    | none =>
      rw [q] at w
      exact dropped w
    | some o =>
      rw [q] at w
      cases o with
      | none => exact dropped w
      | some x =>
        have w1 : WR K Hf H (x :: (tr α' ++ (keepT α is ++ τ))) := w.perm (by
          show (x :: (keepT α is ++ (tr α' ++ τ))).Perm _
          refine List.Perm.cons x ?_
          rw [← List.append_assoc, ← List.append_assoc]
          exact List.Perm.append_right τ List.perm_append_comm)
        exact (w1.store (i := i)).perm (by
          rw [← List.append_assoc, ← List.append_assoc]
          exact List.Perm.append_right τ List.perm_append_comm)
theorem wipe_get {σ : L2.St} : ∀ {is : List Nat} {j : Nat}, (wipe σ is)[j]? = if j ∈ is ∧ j < σ.length then some none else σ[j]?
  | [], j => by
    rw [if_neg fun h => absurd h.1 List.not_mem_nil]
    rfl
  | i :: is, j => by
    show ((wipe σ is).set i none)[j]? = _
    by_cases e : i = j
    · subst e
      by_cases hl : i < σ.length
      · rw [if_pos ⟨List.mem_cons_self, hl⟩, List.getElem?_set_self (by rw [wipe_length]; exact hl)]
      · rw [if_neg fun z => hl z.2, List.getElem?_set, if_pos rfl, if_neg (by rw [wipe_length]; exact hl)]
        exact (List.getElem?_eq_none (by omega)).symm
    · rw [List.getElem?_set_ne e, wipe_get]
      by_cases h : j ∈ is ∧ j < σ.length
      · rw [if_pos h, if_pos ⟨List.mem_cons_of_mem _ h.1, h.2⟩]
      · rw [if_neg h, if_neg fun z => h ⟨(List.mem_cons.mp z.1).resolve_left fun q => e q.symm, z.2⟩]
theorem wipe_eq {σ σ' : L2.St} {is : List Nat} (hl : σ'.length = σ.length) (h : ∀ j, j ∉ is → σ'[j]? = σ[j]?) : wipe σ' is = wipe σ is := by
  apply List.ext_getElem?
  intro j
  rw [wipe_get, wipe_get, hl]
  by_cases hj : j ∈ is ∧ j < σ.length
  · rw [if_pos hj, if_pos hj]
  · rw [if_neg hj, if_neg hj]
    by_cases hm : j ∈ is
    · have : ¬ j < σ.length := fun z => hj ⟨hm, z⟩
      rw [List.getElem?_eq_none (by omega), List.getElem?_eq_none (by omega)]
    · exact h j hm
theorem wipe_wipe {σ : L2.St} {is : List Nat} : wipe (wipe σ is) is = wipe σ is :=
  wipe_eq (wipe_length _ _) fun j hj => by rw [wipe_get, if_neg fun z => hj z.1]
/-! ### the block's context -/
theorem relabel_lookup {env : PySem.Env} {x : Str} : ∀ {names : List (Str × NameKind)} {k : NameKind}, names.lookup x = some k →
    (names.map fun (n, k) => if (k == NameKind.free && env.scope.kind == .function && env.kindOf n == some .cell) then (n, NameKind.cell) else (n, k)).lookup x = some (if (k == NameKind.free && env.scope.kind == .function && env.kindOf x == some .cell) then .cell else k)
  | [], _, h => by simp at h
  | (m, k0) :: r, k, h => by
    by_cases e : x == m
    · have ex : x = m := by simpa using e
      subst ex
      have ek : k0 = k := by simpa using h
      subst ek
      rw [List.map_cons]
      dsimp only
      by_cases c : (k0 == NameKind.free && env.scope.kind == .function && env.kindOf x == some .cell) = true
      · rw [if_pos c, if_pos c]; simp
      · rw [if_neg c, if_neg c]; simp
    · have e : (x == m) = false := by simpa using e
      have h' : r.lookup x = some k := by
        rw [List.lookup_cons, e] at h
        exact h
      have ih := relabel_lookup (env := env) h'
      rw [List.map_cons]
      dsimp only
      by_cases c : (k0 == NameKind.free && env.scope.kind == .function && env.kindOf m == some .cell) = true
      · rw [if_pos c, List.lookup_cons, e]
        exact ih
      · rw [if_neg c, List.lookup_cons, e]
        exact ih
section
variable {X : Cx} {G : Prg} {C : Ctx} {n : Nat} {sc : Scope} {N : List Str}
theorem cn_blk (hc : Cn X G C n sc N) (scope : Scope) (s : Shared) (H : Hp) (A : Addr) (cl : List (Str × Addr)) (fp : List Addr) : Cn (X.blk s H scope (compEnvC scope cl A X.env) fp) G C n scope N := by
  refine ⟨hc.hN, hc.nd, hc.calm, rfl, fun x k h hk => ?_, fun x h => ?_, fun x h => ?_, hc.room, hc.gu, hc.pr⟩
  · have := relabel_lookup (env := X.env) h
    have e : (k == NameKind.free) = false := by cases k <;> first | rfl | exact absurd rfl hk
    rw [e, Bool.false_and, Bool.false_and] at this
    exact this
  · have := relabel_lookup (env := X.env) h
    by_cases c : (NameKind.free == NameKind.free && X.env.scope.kind == .function && X.env.kindOf x == some .cell) = true
    · rw [if_pos c] at this
      exact .inl this
    · rw [if_neg c] at this
      exact .inr this
  · show (scope.names.lookup x == some .cell) = true
    rw [h]
    rfl
def ownP (N : List Str) (own : List Nat) : List (Str × Nat) := own.map fun i => (match N[i]? with | some x => x | none => "", i)
theorem ownP_snd (N : List Str) (own : List Nat) : (ownP N own).map (·.2) = own := by
  unfold ownP
  rw [List.map_map]
  show own.map (fun i => i) = own
  exact List.map_id' _
theorem blk_ok (hc : Cn X G C n sc N) {scope : Scope} {own : List Nat} (h : blkC N sc scope (ownP N own) = true) : BlkOk X.N X.env.scope scope (ownP N own) := by
  have b := blkOk_by h
  rw [hc.hN]
  refine ⟨b.kind, b.uniq, b.ix, fun y hy e => ?_, b.own⟩
  rcases b.free y hy e with q | q
  · exact .inl (hc.lk _ _ q (by decide))
  · exact hc.lf _ q
/-! ### the comprehension's reading -/
mutual
theorem bindT_len : ∀ {t : T} {d : D} {ρ ρ' : Env}, bindT t d ρ = some ρ' → ρ'.length = ρ.length
  | .nm i, d, ρ, ρ', h => by
    cases h
    exact List.length_set
  | .tp ts, d, ρ, ρ', h => by
    cases d with
    | tuple ds => exact bindTs_ln (ts := ts) (ds := ds) h
    | list ds => exact bindTs_ln (ts := ts) (ds := ds) h
    | _ => cases h
theorem bindTs_ln : ∀ {ts : Ts} {ds : List D} {ρ ρ' : Env}, bindTs ts ds ρ = some ρ' → ρ'.length = ρ.length
  | .nil, [], _, _, h => by cases h; rfl
  | .nil, _ :: _, _, _, h => by cases h
  | .cons t ts, [], _, _, h => by cases h
  | .cons t ts, d :: ds, _, _, h => by
    obtain ⟨ρ1, e1, e2⟩ := b1_inv h
    rw [bindTs_ln e2, bindT_len e1]
end
/-- the clauses' tests -/
def SF (X : Cx) (C : Ctx) (ir : E) (ifs : List Expr) : Prop := ∀ (ρ : Env) (r : OV) (ρ' : Env) (b : Bool), evE C ir ρ = some (r, ρ') → truD r.d = some b → ∀ (σ : L2.St) (H Hf : Hp) (α : An) (τ : List OA), Rel σ ρ α → WR X.K Hf H (tr α ++ τ) → ∀ Q : Bool → Hp → Prop,
  (∀ (H' Hf' : Hp) (α' : An), Same Hf Hf' → Rel σ ρ' α' → WR X.K Hf' H' (tr α' ++ τ) → Q b H') → ∃ t, PTs X ifs t ∧ t σ H Q
theorem sf_nil : SF X C (.c (.bool true)) [] := by
  intro ρ r ρ' b he ht σ H Hf α τ R w Q q
  cases he
  cases ht
  exact ⟨_, pts_nil, q H Hf α (Same.refl _) R w⟩
theorem sf_one {c : E} {ec : Expr} (h : ST X C c ec) : SF X C c [ec] := by
  intro ρ r ρ' b he ht σ H Hf α τ R w Q q
  exact ⟨_, pts_one wt_pt, h ρ r ρ' b he ht σ H Hf α τ R w Q q⟩
abbrev Blk := Shared × Hp × Addr × List (Str × Addr) × List Addr
abbrev Cx.bk (X : Cx) (scope : Scope) (b : Blk) : Cx := X.blk b.1 b.2.1 scope (compEnvC scope b.2.2.2.1 b.2.2.1 X.env) b.2.2.2.2
def gU (X : Cx) (scope : Scope) (tg : Expr) : TG := fun v σ H Q => ∀ b : Blk, WG (PF.Cx.bk X scope b) tg v σ H Q
def tU (X : Cx) (scope : Scope) (ifs : List Expr) : TT := fun σ H Q => ∀ b : Blk, ∃ t, PTs (PF.Cx.bk X scope b) ifs t ∧ t σ H Q
def eU (X : Cx) (scope : Scope) (e : Expr) : TE := fun σ H Q => ∀ b : Blk, WE (PF.Cx.bk X scope b) e σ H Q
def iU (X : Cx) (scope : Scope) (tg it : Expr) : TI := fun σ H R => ∀ b : Blk, WI (PF.Cx.bk X scope b) tg it σ H R
theorem gU_pg {X : Cx} {scope : Scope} {tg : Expr} (b : Blk) : PG (PF.Cx.bk X scope b) tg (gU X scope tg) := ⟨fun pins s σ H v u Q I r h => h b pins s u I r⟩
theorem tU_pt {X : Cx} {scope : Scope} {ifs : List Expr} (b : Blk) : PTs (PF.Cx.bk X scope b) ifs (tU X scope ifs) := ⟨fun pins s σ H Q I h => by
  obtain ⟨t, p, q⟩ := h b
  exact p.run pins s σ H Q I q⟩
theorem eU_pe {X : Cx} {scope : Scope} {e : Expr} (b : Blk) : PE (PF.Cx.bk X scope b) e (eU X scope e) := ⟨fun pins s σ H Q I h => h b pins s I⟩
theorem iU_pi {X : Cx} {scope : Scope} {tg it : Expr} (b : Blk) : PI (PF.Cx.bk X scope b) tg it (iU X scope tg it) := ⟨fun pins s σ H R I h => h b pins s I⟩
def lcStep (C : Ctx) (own : List Nat) (tg : T) (cnd elt : E) (d : D) (ρ' : Env) : Option (List OV × Env) := b1 (bindT tg d (wipC ρ' own)) fun ρa => bd (evE C cnd ρa) fun b ρb => b1 (truD b.d) fun t => match t with
    | true => bd (evE C elt ρb) fun x ρc => some ([x], ρc)
    | false => some ([], ρb)
/-- what a walk hands out, as frozen data -/
theorem yd_take {K : PySem.W.Frag} {Hf0 Hf H H' : Hp} {T : List OA} {ds : List D} {i : Nat} {x : V} (y : YD K Hf0 ds i H x H') (s0 : Same Hf0 Hf) (w : WR K Hf H T) : ∃ d Hf', ds[i]? = some d ∧ Same Hf Hf' ∧ WR K Hf' H' T ∧ Dp K Hf' x d := by
  obtain ⟨d, e, h⟩ := y
  rcases h with ⟨rfl, h⟩ | ⟨Ta, vs, es, rfl, hn, rfl, rfl, h⟩
  · exact ⟨d, Hf, e, Same.refl _, w, dp_same s0 h⟩
  · obtain ⟨s1, w1⟩ := w.newT hn (dps_same s0 h)
    exact ⟨_, _, e, s1, w1.tail, w1.dpf⟩
theorem drop_cons {ds : List D} {i : Nat} {d : D} (h : ds[i]? = some d) : ds.drop i = d :: ds.drop (i + 1) := by
  obtain ⟨hl, e⟩ := List.getElem?_eq_some_iff.mp h
  rw [← e]
  exact List.drop_eq_getElem_cons hl
theorem lc_read (hc : Cn X G C n sc N) {own : List Nat} {tg : T} {it : It} {cnd elt : E} {etg eit eelt : Expr} {ifs : List Expr} {scope : Scope} (nd : own.Nodup) (hsub : ∀ i ∈ tg.slots, i ∈ own)
    (hi : SI X C it etg eit) (hg : ∀ b : Blk, SG (PF.Cx.bk X scope b) tg etg) (ht : ∀ b : Blk, SF (PF.Cx.bk X scope b) C cnd ifs) (he : ∀ b : Blk, SE (PF.Cx.bk X scope b) C elt eelt)
    {ρ ρ' : Env} {r : OV} (hev : evE C (.lc own tg it cnd elt) ρ = some (r, ρ')) {σ : L2.St} {H Hf : Hp} {α : An} {τ : List OA} (R : Rel σ ρ α) (w : WR X.K Hf H (tr α ++ τ)) (Q : VK)
    (q : ∀ (H' Hf' : Hp) (α' : An) (x : OA), Same Hf Hf' → Rel σ ρ' α' → x.o = r → WR X.K Hf' H' (x :: (tr α' ++ τ)) → Q x.v H') :
    tLc (WI X etg eit) (gU X scope etg) (tU X scope ifs) (eU X scope eelt) own σ H Q := by
  obtain ⟨ds, ρ1, e1, hev⟩ := bd_inv hev
  obtain ⟨os, ρ2, e2, hev⟩ := bd_inv hev
  obtain ⟨hz, hev⟩ := gd_inv hev
  cases hev
  have e2 : evL (lcStep C own tg cnd elt) ds ρ1 = some (os, ρ2) := e2
  refine hi ρ ds ρ1 e1 σ H Hf α τ R w _ fun H1 Hf1 α1 J s1 R1 w1 wk => ?_
  intro D hD
  have w1' : WR X.K Hf1 H1 ([] ++ (tr (wipA α1 own) ++ (keepT α1 own ++ τ))) := w1.perm (by
    show (tr α1 ++ τ).Perm (tr (wipA α1 own) ++ (keepT α1 own ++ τ))
    rw [← List.append_assoc]
    exact List.Perm.append_right τ ((keep_perm nd).trans List.perm_append_comm))
  refine lc_it wk (fun i H' => ∃ (Hf' : Hp) (ρi : Env) (αi : An) (ts : List OA) (os' : List OV), Same Hf1 Hf' ∧ Rel (wipe σ own) (wipC ρi own) αi ∧ WR X.K Hf' H' (.ol D ts :: (tr αi ++ (keepT α1 own ++ τ))) ∧ evL (lcStep C own tg cnd elt) (ds.drop i) ρi = some (os', ρ2) ∧ OA.os ts ++ os' = os)
    ⟨Hf1, ρ1, wipA α1 own, [], os, Same.refl _, R1.wip own, w1'.newL hD, e2, rfl⟩ (fun i H' _ ⟨Hf', _, _, _, _, s, _, w, _⟩ => s.trans w.sub) (fun i x H' H2 hlt hP y => ?_) (fun H' hP => ?_)
  · obtain ⟨Hf', ρi, αi, ts, os', s2, R2, w2, e3, e4⟩ := hP
    obtain ⟨d, Hf2, hd, s3, w3, dx⟩ := yd_take y s2 w2
    rw [drop_cons hd] at e3
    obtain ⟨o1, ρ3, e5, e3⟩ := bd_inv (show bd (lcStep C own tg cnd elt d ρi) _ = some (os', ρ2) from e3)
    obtain ⟨o2, ρ4, e6, e3⟩ := bd_inv e3
    cases e3
    obtain ⟨ρa, e7, e5⟩ := b1_inv e5
    obtain ⟨bb, ρb, e8, e5⟩ := bd_inv e5
    obtain ⟨t, e9, e5⟩ := b1_inv e5
    intro b1
    refine hg b1 d _ ρa e7 (wipe σ own) H2 Hf2 αi (.ol D ts :: (keepT α1 own ++ τ)) x R2 (w3.perm perm_mid.symm) dx _ fun σ2 α2 R3 w4 k2 => ⟨?_, ?_⟩
    · rw [← wipe_wipe (σ := σ)]
      refine wipe_eq ?_ fun j hj => k2 j fun z => hj (hsub j z)
      have l1 := R3.ln
      have l2 := R2.ln
      have l3 : α2.length = ρa.length := by rw [← R3.er]; unfold erase; rw [List.length_map]
      have l4 : αi.length = (wipC ρi own).length := by rw [← R2.er]; unfold erase; rw [List.length_map]
      have l5 : ρa.length = (wipC ρi own).length := bindT_len e7
      omega
    intro b2
    refine ht b2 ρa bb ρb t e8 e9 σ2 H2 Hf2 α2 _ R3 w4 _ fun H3 Hf3 α3 s4 R4 w5 => ?_
    have wend : ∀ {ρc : Env} {α4 : An} {H4 Hf4 : Hp} {ts' : List OA}, Rel σ2 ρc α4 → WR X.K Hf4 H4 (.ol D ts' :: (tr α4 ++ (keepT α1 own ++ τ))) → wipe σ2 own = wipe σ own → Rel (wipe σ own) (wipC ρc own) (wipA α4 own) ∧ WR X.K Hf4 H4 (.ol D ts' :: (tr (wipA α4 own) ++ (keepT α1 own ++ τ))) := by
      intro ρc α4 H4 Hf4 ts' Ra wa ew
      refine ⟨by rw [← ew]; exact Ra.wip own, ?_⟩
      have p := (keep_perm (α := α4) nd).append_right (.ol D ts' :: (keepT α1 own ++ τ))
      have wb := (wa.perm perm_mid.symm).perm p
      rw [List.append_assoc] at wb
      exact wb.right.perm perm_mid
    have ew : wipe σ2 own = wipe σ own := by
      rw [← wipe_wipe (σ := σ)]
      refine wipe_eq ?_ fun j hj => k2 j fun z => hj (hsub j z)
      have l1 := R3.ln
      have l2 := R2.ln
      have l3 : α2.length = ρa.length := by rw [← R3.er]; unfold erase; rw [List.length_map]
      have l4 : αi.length = (wipC ρi own).length := by rw [← R2.er]; unfold erase; rw [List.length_map]
      have l5 : ρa.length = (wipC ρi own).length := bindT_len e7
      omega
    cases t with
    | true =>
      refine iteT ?_
      obtain ⟨xo, ρc, e10, e5⟩ := bd_inv (show bd (evE C elt ρb) _ = some (o1, ρ3) from e5)
      cases e5
      intro b3
      refine he b3 ρb xo _ e10 σ2 H3 Hf3 α3 _ R4 w5 _ fun H4 Hf4 α4 yt s5 R5 ey w6 => ?_
      have w7 : WR X.K Hf4 H4 (yt :: .ol D ts :: (tr α4 ++ (keepT α1 own ++ τ))) := w6.perm (List.Perm.cons yt perm_mid)
      have wD := w7.tail.ok.1
      refine ⟨ts.map OA.v, wD.1, ?_, ?_⟩
      · have hl := of_decide_eq_true hz
        rw [List.length_map, ← os_len]
        rw [← e4] at hl
        simp only [List.length_append, List.length_cons, List.length_nil] at hl
        show (OA.os ts).length < SZ
        omega
      · obtain ⟨Re, we⟩ := wend R5 w7.append ew
        refine ⟨Hf4, _, wipA α4 own, ts ++ [yt], o2, ((s2.trans s3).trans s4).trans s5, Re, we, e6, ?_⟩
        rw [← e4]
        have : OA.os (ts ++ [yt]) = OA.os ts ++ [xo] := by
          rw [OA.os_map, OA.os_map, List.map_append]
          show _ ++ [yt.o] = _
          rw [ey]
        rw [this, List.append_assoc]
    | false =>
      refine iteF ?_
      cases e5
      obtain ⟨Re, we⟩ := wend R4 (w5.perm perm_mid) ew
      exact ⟨Hf3, _, wipA α3 own, ts, o2, (s2.trans s3).trans s4, Re, we, e6, e4⟩
  · obtain ⟨Hf', ρi, αi, ts, os', s2, R2, w2, e3, e4⟩ := hP
    rw [List.drop_length] at e3
    cases e3
    rw [List.append_nil] at e4
    have w3 : WR X.K Hf' H' (keepT α1 own ++ (tr αi ++ (.ol D ts :: τ))) := w2.perm (by
      rw [← List.append_assoc (keepT α1 own), ← List.append_assoc (tr αi)]
      refine List.Perm.trans ?_ perm_mid.symm
      refine List.Perm.cons _ ?_
      exact List.Perm.append_right τ List.perm_append_comm)
    exact q H' Hf' (backA α1 αi own) (.ol D ts) (s1.trans s2) (R1.backs R2) (by show OV.ol (OA.os ts) = _; rw [e4]) ((WR.backs w3).perm perm_mid)
end
end PF

/-! PF, tenth part: comprehensions as expressions; two clauses. -/
namespace PF
open PySem PySem.Spec PyProof.Rows L2
theorem wipC_get {ρ : Env} : ∀ {is : List Nat} {j : Nat}, (wipC ρ is)[j]? = if j ∈ is ∧ j < ρ.length then some none else ρ[j]?
  | [], j => by
    rw [if_neg fun h => absurd h.1 List.not_mem_nil]
    rfl
  | i :: is, j => by
    show ((wipC ρ is).set i none)[j]? = _
    by_cases e : i = j
    · subst e
      by_cases hl : i < ρ.length
      · rw [if_pos ⟨List.mem_cons_self, hl⟩, List.getElem?_set_self (by rw [wipC_len]; exact hl)]
      · rw [if_neg fun z => hl z.2, List.getElem?_set, if_pos rfl, if_neg (by rw [wipC_len]; exact hl)]
        exact (List.getElem?_eq_none (by omega)).symm
    · rw [List.getElem?_set_ne e, wipC_get]
      by_cases h : j ∈ is ∧ j < ρ.length
      · rw [if_pos h, if_pos ⟨List.mem_cons_of_mem _ h.1, h.2⟩]
      · rw [if_neg h, if_neg fun z => h ⟨(List.mem_cons.mp z.1).resolve_left fun q => e q.symm, z.2⟩]
theorem wipC_eq {σ σ' : Env} {is : List Nat} (hl : σ'.length = σ.length) (h : ∀ j, j ∉ is → σ'[j]? = σ[j]?) : wipC σ' is = wipC σ is := by
  apply List.ext_getElem?
  intro j
  rw [wipC_get, wipC_get, hl]
  by_cases hj : j ∈ is ∧ j < σ.length
  · rw [if_pos hj, if_pos hj]
  · rw [if_neg hj, if_neg hj]
    by_cases hm : j ∈ is
    · have : ¬ j < σ.length := fun z => hj ⟨hm, z⟩
      rw [List.getElem?_eq_none (by omega), List.getElem?_eq_none (by omega)]
    · exact h j hm
theorem wipC_sub {ρ : Env} {is js : List Nat} (h : ∀ j ∈ js, j ∈ is) : wipC (wipC ρ js) is = wipC ρ is :=
  wipC_eq (wipC_len _) fun j hj => by rw [wipC_get, if_neg fun z => hj (h j z.1)]
theorem wipe_sub {σ : L2.St} {is js : List Nat} (h : ∀ j ∈ js, j ∈ is) : wipe (wipe σ js) is = wipe σ is :=
  wipe_eq (wipe_length _ _) fun j hj => by rw [wipe_get, if_neg fun z => hj (h j z.1)]
/-- a loop over a walk, by what holds at each turn -/
theorem walk_loop {J : L2.It} {n : Nat} {Gd : Hp → Prop} {Y : Nat → Hp → V → Hp → Prop} (w : Walk J n Gd Y) {B : (Hp → Prop) → V → Hp → Prop} {H0 : Hp} {Qd : Hp → Prop} (Pv : Nat → Hp → Prop) (h0 : Pv 0 H0) (hG : ∀ i H, i ≤ n → Pv i H → Gd H)
    (hs : ∀ i x H H', i < n → Pv i H → Y i H x H' → B (Pv (i + 1)) x H') (hd : ∀ H, Pv n H → Qd H) :
    ∃ W : Nat → Nat → Hp → Prop, (∃ m, W 0 m H0) ∧ ∀ i m H, W i m H →
      (J.stop i H ∧ Qd H) ∨ (J.go i H ∧ ∃ Nx : Hp → Prop, (∀ H', Nx H' → ∃ m', m' < m ∧ W (i + 1) m' H') ∧ ∀ x H', J.yld i H x H' → B Nx x H') := by
  refine ⟨fun i m H => m = n - i ∧ i ≤ n ∧ Pv i H, ⟨n, by simp, Nat.zero_le _, h0⟩, ?_⟩
  rintro i m H ⟨rfl, hi, p⟩
  have q := hG i H hi p
  by_cases hlt : i < n
  · exact .inr ⟨w.goes i H hlt q, Pv (i + 1), fun H' p' => ⟨n - (i + 1), by omega, rfl, hlt, p'⟩, fun x H' y => hs i x H H' hlt p (w.yields i H x H' hlt q y)⟩
  · have e : i = n := by omega
    subst e
    exact .inl ⟨w.stops H q, hd H p⟩
section
variable {X : Cx} {G : Prg} {C : Ctx} {n : Nat} {sc : Scope} {N : List Str}
theorem se_lc (hc : Cn X G C n sc N) {own : List Nat} {tg : T} {it : It} {cnd elt : E} {etg eit eelt : Expr} {ifs : List Expr} {scope : Scope} {pos : Pos} (nd : own.Nodup) (hsub : ∀ i ∈ tg.slots, i ∈ own) (hb : blkC N sc scope (ownP N own) = true)
    (hi : SI X C it etg eit) (hg : ∀ b : Blk, SG (PF.Cx.bk X scope b) tg etg) (ht : ∀ b : Blk, SF (PF.Cx.bk X scope b) C cnd ifs) (he : ∀ b : Blk, SE (PF.Cx.bk X scope b) C elt eelt) (hk : kindOk eit = true) :
    SE X C (.lc own tg it cnd elt) (.ListComp eelt [⟨etg, eit, ifs, 0⟩] scope pos) := by
  intro ρ r ρ' hev σ H Hf α τ R w Q q
  refine pe_we (pe_lc (own := ownP N own) hc.calm (by rw [hc.hN]; exact hc.nd) wi_pi (blk_ok hc hb) (fun s H A cl fp => gU_pg (s, H, A, cl, fp)) (fun s H A cl fp => tU_pt (s, H, A, cl, fp)) (fun s H A cl fp => eU_pe (s, H, A, cl, fp)) (set_ok hk _)) ?_
  rw [ownP_snd]
  exact lc_read hc nd hsub hi hg ht he hev R w Q q
def lcStep2 (C : Ctx) (own own1 : List Nat) (tg : T) (tg1 : T) (it1 : It) (cnd elt : E) (d : D) (ρ' : Env) : Option (List OV × Env) := b1 (bindT tg d (wipC ρ' own)) fun ρa => bd (evI C it1 ρa) fun ds1 ρb => evL (lcStep C own1 tg1 cnd elt) ds1 ρb
theorem erase_len {α : An} : (erase α).length = α.length := by unfold erase; rw [List.length_map]
theorem rel_len {σ : L2.St} {ρ : Env} {α : An} (R : Rel σ ρ α) : σ.length = ρ.length := by rw [R.ln, ← R.er, erase_len]
theorem lc2_read (hc : Cn X G C n sc N) {own own1 : List Nat} {tg tg1 : T} {it it1 : It} {cnd elt : E} {etg eit etg1 eit1 eelt : Expr} {ifs : List Expr} {scope : Scope} (nd : own.Nodup) (nd1 : own1.Nodup) (hsub : ∀ i ∈ tg.slots, i ∈ own) (hsub1 : ∀ i ∈ tg1.slots, i ∈ own1) (ho : ∀ i ∈ own1, i ∈ own)
    (hi : SI X C it etg eit) (hg : ∀ b : Blk, SG (PF.Cx.bk X scope b) tg etg) (hi1 : ∀ b : Blk, SI (PF.Cx.bk X scope b) C it1 etg1 eit1) (hg1 : ∀ b : Blk, SG (PF.Cx.bk X scope b) tg1 etg1) (ht : ∀ b : Blk, SF (PF.Cx.bk X scope b) C cnd ifs) (he : ∀ b : Blk, SE (PF.Cx.bk X scope b) C elt eelt)
    {ρ ρ' : Env} {r : OV} (hev : evE C (.lc2 own own1 tg it tg1 it1 cnd elt) ρ = some (r, ρ')) {σ : L2.St} {H Hf : Hp} {α : An} {τ : List OA} (R : Rel σ ρ α) (w : WR X.K Hf H (tr α ++ τ)) (Q : VK)
    (q : ∀ (H' Hf' : Hp) (α' : An) (x : OA), Same Hf Hf' → Rel σ ρ' α' → x.o = r → WR X.K Hf' H' (x :: (tr α' ++ τ)) → Q x.v H') :
    tLc2 (WI X etg eit) (gU X scope etg) (tU X scope []) (iU X scope etg1 eit1) (gU X scope etg1) (tU X scope ifs) (eU X scope eelt) own own1 σ H Q := by
  obtain ⟨ds, ρ1, e1, hev⟩ := bd_inv hev
  obtain ⟨os, ρ2, e2, hev⟩ := bd_inv hev
  obtain ⟨hz, hev⟩ := gd_inv hev
  cases hev
  have e2 : evL (lcStep2 C own own1 tg tg1 it1 cnd elt) ds ρ1 = some (os, ρ2) := e2
  refine hi ρ ds ρ1 e1 σ H Hf α τ R w _ fun H1 Hf1 α1 J s1 R1 w1 wk => ?_
  intro D hD
  have w1' : WR X.K Hf1 H1 ([] ++ (tr (wipA α1 own) ++ (keepT α1 own ++ τ))) := w1.perm (by
    show (tr α1 ++ τ).Perm (tr (wipA α1 own) ++ (keepT α1 own ++ τ))
    rw [← List.append_assoc]
    exact List.Perm.append_right τ ((keep_perm nd).trans List.perm_append_comm))
  refine walk_loop wk (fun i H' => ∃ (Hf' : Hp) (ρi : Env) (αi : An) (ts : List OA) (os' : List OV), Same Hf1 Hf' ∧ Rel (wipe σ own) (wipC ρi own) αi ∧ WR X.K Hf' H' (.ol D ts :: (tr αi ++ (keepT α1 own ++ τ))) ∧ evL (lcStep2 C own own1 tg tg1 it1 cnd elt) (ds.drop i) ρi = some (os', ρ2) ∧ OA.os ts ++ os' = os)
    ⟨Hf1, ρ1, wipA α1 own, [], os, Same.refl _, R1.wip own, w1'.newL hD, e2, rfl⟩ (fun i H' _ ⟨Hf', _, _, _, _, s, _, w, _⟩ => s.trans w.sub) (fun i x H' H2 hlt hP y => ?_) (fun H' hP => ?_)
  · obtain ⟨Hf', ρi, αi, ts, os', s2, R2, w2, e3, e4⟩ := hP
    obtain ⟨d, Hf2, hd, s3, w3, dx⟩ := yd_take y s2 w2
    rw [drop_cons hd] at e3
    obtain ⟨o1, ρ3, e5, e3⟩ := bd_inv (show bd (lcStep2 C own own1 tg tg1 it1 cnd elt d ρi) _ = some (os', ρ2) from e3)
    obtain ⟨o2, ρ4, e6, e3⟩ := bd_inv e3
    cases e3
    obtain ⟨ρa, e7, e5⟩ := b1_inv e5
    obtain ⟨ds1, ρb, e8, e5⟩ := bd_inv e5
    intro b1
    refine hg b1 d _ ρa e7 (wipe σ own) H2 Hf2 αi (.ol D ts :: (keepT α1 own ++ τ)) x R2 (w3.perm perm_mid.symm) dx _ fun σ2 α2 R3 w4 k2 => ?_
    have ew : wipe σ2 own = wipe σ own := by
      rw [← wipe_wipe (σ := σ)]
      refine wipe_eq ?_ fun j hj => k2 j fun z => hj (hsub j z)
      have l1 := rel_len R3
      have l2 := rel_len R2
      have l5 : ρa.length = (wipC ρi own).length := bindT_len e7
      omega
    refine ⟨ew, fun b2 => ⟨_, pts_nil, ?_⟩⟩
    unfold tYes
    dsimp only
    rw [if_pos rfl]
    intro b3
    refine hi1 b3 ρa ds1 ρb e8 σ2 H2 Hf2 α2 _ R3 w4 _ fun H3 Hf3 α3 J1 s4 R4 w5 wk1 => ?_
    have w5' : WR X.K Hf3 H3 (.ol D ts :: (tr (wipA α3 own1) ++ (keepT α3 own1 ++ (keepT α1 own ++ τ)))) := by
      have p := (keep_perm (α := α3) nd1).append_right (.ol D ts :: (keepT α1 own ++ τ))
      refine (w5.perm p).perm ?_
      refine List.Perm.trans perm_mid (List.Perm.cons _ ?_)
      rw [← List.append_assoc (tr (wipA α3 own1))]
      exact List.Perm.append_right _ List.perm_append_comm
    refine walk_loop wk1 (fun j H' => ∃ (Hf' : Hp) (ρj : Env) (αj : An) (ts' : List OA) (os2 : List OV), Same Hf3 Hf' ∧ Rel (wipe σ2 own1) (wipC ρj own1) αj ∧ WR X.K Hf' H' (.ol D ts' :: (tr αj ++ (keepT α3 own1 ++ (keepT α1 own ++ τ)))) ∧ evL (lcStep C own1 tg1 cnd elt) (ds1.drop j) ρj = some (os2, ρ3) ∧ OA.os ts' ++ (os2 ++ o2) = os)
      ⟨Hf3, ρb, wipA α3 own1, ts, o1, Same.refl _, R4.wip own1, w5', e5, e4⟩ (fun i H' _ ⟨Hf', _, _, _, _, s, _, w, _⟩ => s.trans w.sub) (fun j x1 H4 H5 hlt1 hP1 y1 => ?_) (fun H4 hP1 => ?_)
    · obtain ⟨Hf4, ρj, αj, ts', os2, s5, R5, w6, f1, f2⟩ := hP1
      obtain ⟨d1, Hf5, hd1, s6, w7, dx1⟩ := yd_take y1 s5 w6
      rw [drop_cons hd1] at f1
      obtain ⟨p1, ρ5, f3, f1⟩ := bd_inv (show bd (lcStep C own1 tg1 cnd elt d1 ρj) _ = some (os2, ρ3) from f1)
      obtain ⟨p2, ρ6, f4, f1⟩ := bd_inv f1
      cases f1
      obtain ⟨ρc, f5, f3⟩ := b1_inv f3
      obtain ⟨bb, ρd, f6, f3⟩ := bd_inv f3
      obtain ⟨t, f7, f3⟩ := b1_inv f3
      intro b4
      refine hg1 b4 d1 _ ρc f5 (wipe σ2 own1) H5 Hf5 αj (.ol D ts' :: (keepT α3 own1 ++ (keepT α1 own ++ τ))) x1 R5 (w7.perm perm_mid.symm) dx1 _ fun σ3 α4 R6 w8 k3 => ?_
      have ew1 : wipe σ3 own1 = wipe σ2 own1 := by
        rw [← wipe_wipe (σ := σ2)]
        refine wipe_eq ?_ fun j hj => k3 j fun z => hj (hsub1 j z)
        have l1 := rel_len R6
        have l2 := rel_len R5
        have l5 : ρc.length = (wipC ρj own1).length := bindT_len f5
        omega
      refine ⟨ew1, ?_⟩
      intro b5
      refine ht b5 ρc bb ρd t f6 f7 σ3 H5 Hf5 α4 _ R6 w8 _ fun H6 Hf6 α5 s7 R7 w9 => ?_
      have wend : ∀ {ρe : Env} {α6 : An} {H7 Hf7 : Hp} {us : List OA}, Rel σ3 ρe α6 → WR X.K Hf7 H7 (.ol D us :: (tr α6 ++ (keepT α3 own1 ++ (keepT α1 own ++ τ)))) → Rel (wipe σ2 own1) (wipC ρe own1) (wipA α6 own1) ∧ WR X.K Hf7 H7 (.ol D us :: (tr (wipA α6 own1) ++ (keepT α3 own1 ++ (keepT α1 own ++ τ)))) := by
        intro ρe α6 H7 Hf7 us Ra wa
        refine ⟨by rw [← ew1]; exact Ra.wip own1, ?_⟩
        have p := (keep_perm (α := α6) nd1).append_right (.ol D us :: (keepT α3 own1 ++ (keepT α1 own ++ τ)))
        have wb := (wa.perm perm_mid.symm).perm p
        rw [List.append_assoc] at wb
        exact wb.right.perm perm_mid
      cases t with
      | true =>
        refine iteT ?_
        obtain ⟨xo, ρe, f8, f3⟩ := bd_inv (show bd (evE C elt ρd) _ = some (p1, ρ5) from f3)
        cases f3
        intro b6
        refine he b6 ρd xo _ f8 σ3 H6 Hf6 α5 _ R7 w9 _ fun H7 Hf7 α6 yt s8 R8 ey w10 => ?_
        have w11 : WR X.K Hf7 H7 (yt :: .ol D ts' :: (tr α6 ++ (keepT α3 own1 ++ (keepT α1 own ++ τ)))) := w10.perm (List.Perm.cons yt perm_mid)
        have wD := w11.tail.ok.1
        refine ⟨ts'.map OA.v, wD.1, ?_, ?_⟩
        · have hl := of_decide_eq_true hz
          rw [List.length_map, ← os_len]
          rw [← f2] at hl
          simp only [List.length_append, List.length_cons, List.length_nil] at hl
          show (OA.os ts').length < SZ
          omega
        · obtain ⟨Re, we⟩ := wend R8 w11.append
          refine ⟨Hf7, _, wipA α6 own1, ts' ++ [yt], p2, ((s5.trans s6).trans s7).trans s8, Re, we, f4, ?_⟩
          rw [← f2]
          have : OA.os (ts' ++ [yt]) = OA.os ts' ++ [xo] := by
            rw [OA.os_map, OA.os_map, List.map_append]
            show _ ++ [yt.o] = _
            rw [ey]
          rw [this]
          simp
      | false =>
        refine iteF ?_
        cases f3
        obtain ⟨Re, we⟩ := wend R7 (w9.perm perm_mid)
        exact ⟨Hf6, _, wipA α5 own1, ts', p2, (s5.trans s6).trans s7, Re, we, f4, f2⟩
    · obtain ⟨Hf4, ρj, αj, ts', os2, s5, R5, w6, f1, f2⟩ := hP1
      rw [List.drop_length] at f1
      cases f1
      have R6 := R5.wip own
      rw [wipe_sub ho, wipC_sub ho, ew] at R6
      refine ⟨Hf4, ρ3, wipA αj own, ts', o2, ((s2.trans s3).trans s4).trans s5, R6, ?_, e6, f2⟩
      have p := (keep_perm (α := αj) nd).append_right (.ol D ts' :: (keepT α3 own1 ++ (keepT α1 own ++ τ)))
      have wb := (w6.perm perm_mid.symm).perm p
      rw [List.append_assoc] at wb
      have wc := wb.right
      have wd : WR X.K Hf4 H4 (keepT α3 own1 ++ (.ol D ts' :: (tr (wipA αj own) ++ (keepT α1 own ++ τ)))) := wc.perm (by
        refine List.Perm.trans perm_mid ?_
        refine List.Perm.trans ?_ perm_mid.symm
        refine List.Perm.cons _ ?_
        rw [← List.append_assoc, ← List.append_assoc (keepT α3 own1)]
        exact List.Perm.append_right _ List.perm_append_comm)
      exact wd.right
  · obtain ⟨Hf', ρi, αi, ts, os', s2, R2, w2, e3, e4⟩ := hP
    rw [List.drop_length] at e3
    cases e3
    rw [List.append_nil] at e4
    have w3 : WR X.K Hf' H' (keepT α1 own ++ (tr αi ++ (.ol D ts :: τ))) := w2.perm (by
      rw [← List.append_assoc (keepT α1 own), ← List.append_assoc (tr αi)]
      refine List.Perm.trans ?_ perm_mid.symm
      refine List.Perm.cons _ ?_
      exact List.Perm.append_right τ List.perm_append_comm)
    exact q H' Hf' (backA α1 αi own) (.ol D ts) (s1.trans s2) (R1.backs R2) (by show OV.ol (OA.os ts) = _; rw [e4]) ((WR.backs w3).perm perm_mid)
theorem se_lc2 (hc : Cn X G C n sc N) {own own1 : List Nat} {tg tg1 : T} {it it1 : It} {cnd elt : E} {etg eit etg1 eit1 eelt : Expr} {ifs : List Expr} {scope : Scope} {pos : Pos} (nd : own.Nodup) (nd1 : own1.Nodup) (hsub : ∀ i ∈ tg.slots, i ∈ own) (hsub1 : ∀ i ∈ tg1.slots, i ∈ own1) (ho : ∀ i ∈ own1, i ∈ own) (hb : blkC N sc scope (ownP N own) = true)
    (hi : SI X C it etg eit) (hg : ∀ b : Blk, SG (PF.Cx.bk X scope b) tg etg) (hi1 : ∀ b : Blk, SI (PF.Cx.bk X scope b) C it1 etg1 eit1) (hg1 : ∀ b : Blk, SG (PF.Cx.bk X scope b) tg1 etg1) (ht : ∀ b : Blk, SF (PF.Cx.bk X scope b) C cnd ifs) (he : ∀ b : Blk, SE (PF.Cx.bk X scope b) C elt eelt) (hk : kindOk eit = true) (hk1 : kindOk eit1 = true) :
    SE X C (.lc2 own own1 tg it tg1 it1 cnd elt) (.ListComp eelt [⟨etg, eit, [], 0⟩, ⟨etg1, eit1, ifs, 0⟩] scope pos) := by
  intro ρ r ρ' hev σ H Hf α τ R w Q q
  refine pe_we (pe_lc2 (own := ownP N own) (vs1 := own1) hc.calm (by rw [hc.hN]; exact hc.nd) wi_pi (blk_ok hc hb) (by rw [ownP_snd]; exact ho) (fun s H A cl fp => gU_pg (s, H, A, cl, fp)) (fun s H A cl fp => tU_pt (s, H, A, cl, fp)) (fun s H A cl fp => iU_pi (s, H, A, cl, fp)) (fun s H A cl fp => gU_pg (s, H, A, cl, fp)) (fun s H A cl fp => tU_pt (s, H, A, cl, fp)) (fun s H A cl fp => eU_pe (s, H, A, cl, fp)) (set_ok hk _) (fun env x => set_ok hk1 env x)) ?_
  rw [ownP_snd]
  exact lc2_read hc nd nd1 hsub hsub1 ho hi hg hi1 hg1 ht he hev R w Q q
end
end PF

/-! PF, eleventh part: statements. -/
namespace PF
open PySem PySem.Spec PyProof.Rows L2
def Kp (keep : List Nat) (σ σ' : L2.St) : Prop := ∀ i ∈ keep, σ'[i]? = σ[i]?
theorem Kp.refl {keep : List Nat} {σ : L2.St} : Kp keep σ σ := fun _ _ => rfl
theorem Kp.trans {keep : List Nat} {σ σ1 σ2 : L2.St} (a : Kp keep σ σ1) (b : Kp keep σ1 σ2) : Kp keep σ σ2 := fun i hi => (b i hi).trans (a i hi)
/-- what is wanted of a statement's end -/
def FlOk (K : PySem.W.Frag) (keep : List Nat) (σ : L2.St) (Hf : Hp) (τ : List OA) (fl : Fl) (D : Ends) : Prop := match fl with
  | .nx ρ' => ∀ (σ' : L2.St) (H' Hf' : Hp) (α' : An), Same Hf Hf' → Rel σ' ρ' α' → WR K Hf' H' (tr α' ++ τ) → Kp keep σ σ' → D.nx σ' H'
  | .bk ρ' => ∀ (σ' : L2.St) (H' Hf' : Hp) (α' : An), Same Hf Hf' → Rel σ' ρ' α' → WR K Hf' H' (tr α' ++ τ) → Kp keep σ σ' → D.bk σ' H'
  | .ct ρ' => ∀ (σ' : L2.St) (H' Hf' : Hp) (α' : An), Same Hf Hf' → Rel σ' ρ' α' → WR K Hf' H' (tr α' ++ τ) → Kp keep σ σ' → D.ct σ' H'
  | .rt o ρ' => ∀ (σ' : L2.St) (H' Hf' : Hp) (α' : An) (x : OA), Same Hf Hf' → Rel σ' ρ' α' → x.o = o → WR K Hf' H' (x :: (tr α' ++ τ)) → Kp keep σ σ' → D.rt x.v H'
theorem FlOk.mono {K : PySem.W.Frag} {keep : List Nat} {σ σ1 : L2.St} {Hf Hf1 : Hp} {τ : List OA} {fl : Fl} {D : Ends} (h : FlOk K keep σ Hf τ fl D) (s : Same Hf Hf1) (k : Kp keep σ σ1) : FlOk K keep σ1 Hf1 τ fl D := by
  cases fl with
  | nx ρ => exact fun σ' H' Hf' α' s' R w k' => h σ' H' Hf' α' (s.trans s') R w (k.trans k')
  | bk ρ => exact fun σ' H' Hf' α' s' R w k' => h σ' H' Hf' α' (s.trans s') R w (k.trans k')
  | ct ρ => exact fun σ' H' Hf' α' s' R w k' => h σ' H' Hf' α' (s.trans s') R w (k.trans k')
  | rt o ρ => exact fun σ' H' Hf' α' x s' R e w k' => h σ' H' Hf' α' x (s.trans s') R e w (k.trans k')
section
variable (X : Cx) (C : Ctx) (keep : List Nat)
def SS (s : S) (st : Stmt) : Prop := ∀ (ρ : Env) (fl : Fl), evS C s ρ = some fl → ∀ (σ : L2.St) (H Hf : Hp) (α : An) (τ : List OA), Rel σ ρ α → WR X.K Hf H (tr α ++ τ) → ∀ D : Ends, FlOk X.K keep σ Hf τ fl D → WS X st D σ H
def SSs (s : Ss) (st : List Stmt) : Prop := ∀ (ρ : Env) (fl : Fl), evSs C s ρ = some fl → ∀ (σ : L2.St) (H Hf : Hp) (α : An) (τ : List OA), Rel σ ρ α → WR X.K Hf H (tr α ++ τ) → ∀ D : Ends, FlOk X.K keep σ Hf τ fl D → WSs X st D σ H
end
def isLC : Expr → Bool
  | .ListComp .. => true
  | .SetComp .. => true
  | .DictComp .. => true
  | _ => false
theorem sw_no {e : Expr} (h : isLC e = false) (t : Option Expr) (l : Nat) (env : PySem.Env) : swapsWith e t l env = pure false := by
  cases e <;> first | rfl | cases h
def swapO (kf : Str → Option NameKind) (ts vs : List Expr) : Option (Option (List Str)) :=
  if (!(ts.length == 2 || ts.length == 3) || vs.length != ts.length) = true then some none else
  if (vs.any fun | .Starred .. => true | _ => false) = true then some none else
  let line := (ts.head?.map (·.pos.line)).getD 0
  let names := ts.filterMap fun
    | .Name id pos => if kf id == some .local && pos.line == line then some id else none
    | _ => none
  if (names.length != ts.length || names.eraseDups.length != names.length) = true then some none else
  if (vs.all (foldedForSure 8)) = true then some none else
  if (vs.all (constantsAlone 8)) = true then none else some (some names)
theorem swap_eq {env : PySem.Env} {ts vs : List Expr} {k k2 : Nat} {p p2 : Pos} {r : Option (List Str)} (hk : env.scope.kind = .function) (h : swapO env.kindOf ts vs = some r) : swappedStores [.Tuple ts k p] (.Tuple vs k2 p2) env = pure r := by
  have hb : env.blockKind = .function := by unfold Env.blockKind; rw [hk]; rfl
  unfold swapO at h
  unfold swappedStores
  have hb2 : (env.blockKind != .function) = false := by rw [hb]; rfl
  simp only [hb2, Bool.or_false]
  dsimp only at h
  by_cases c1 : (!(ts.length == 2 || ts.length == 3) || vs.length != ts.length) = true
  · rw [if_pos c1] at h ⊢
    cases h
    rfl
  · rw [if_neg c1] at h ⊢
    split at h
    · rename_i c2
      split
      · cases h
        rfl
      · rename_i d2
        exact absurd c2 d2
    · rename_i c2
      split
      · rename_i d2
        exact absurd d2 c2
      · split at h
        · rename_i c3
          split
          · cases h
            rfl
          · rename_i d3
            exact absurd c3 d3
        · rename_i c3
          split
          · rename_i d3
            exact absurd d3 c3
          · split at h
            · rename_i c4
              rw [if_pos c4]
              cases h
              rfl
            · rename_i c4
              rw [if_neg c4]
              split at h
              · cases h
              · rename_i c5
                rw [if_neg c5]
                cases h
                rfl
def isTup : Expr → Bool
  | .Tuple .. => true
  | _ => false
theorem fm_short {f : Expr → Option Str} (hf : ∀ e, isTup e = true → f e = none) : ∀ {ts : List Expr}, ts.any isTup = true → (ts.filterMap f).length < ts.length
  | [], h => by cases h
  | t :: ts, h => by
    cases ht : isTup t with
    | true =>
      rw [List.filterMap_cons, hf t ht, List.length_cons]
      exact Nat.lt_succ_of_le (List.length_filterMap_le ..)
    | false =>
      rw [List.any_cons, ht, Bool.false_or] at h
      have := fm_short hf h
      rw [List.filterMap_cons, List.length_cons]
      split
      · omega
      · rw [List.length_cons]
        omega
theorem swap_nest {env : PySem.Env} {ts vs : List Expr} {k k2 : Nat} {p p2 : Pos} (h : ts.any isTup = true) : swappedStores [.Tuple ts k p] (.Tuple vs k2 p2) env = pure none := by
  unfold swappedStores
  dsimp only
  split
  · rfl
  · split
    · rfl
    · split
      · rfl
      · rename_i c
        exfalso
        apply c
        rw [Bool.or_eq_true]
        refine .inl ?_
        have := fm_short (f := fun
          | .Name id pos => if env.kindOf id == some .local && pos.line == (ts.head?.map (·.pos.line)).getD 0 then some id else none
          | _ => none) (fun e he => by cases e <;> first | rfl | cases he) h
        rw [bne_iff_ne]
        exact Nat.ne_of_lt this
section
variable {X : Cx} {G : Prg} {C : Ctx} {n : Nat} {sc : Scope} {N : List Str} {keep : List Nat}
/-- a plain assignment's text -/
def asgOk (tg e : Expr) : Bool := !isLC e && (match tg, e with
  | .Name .., _ => true
  | .Tuple ts _ _, .Tuple .. => ts.any isTup
  | .Tuple .., _ => true
  | .Subscript .., _ => true
  | _, _ => false)
theorem asg_facts {tg e : Expr} (h : asgOk tg e = true) (l : Nat) (env : PySem.Env) : swapsWithSole [tg] e l env = pure false ∧ swappedStores [tg] e env = pure none ∧ (assignEach [tg] env).map (·.2) = [assign tg env] := by
  have z := Bool.and_eq_true_iff.mp h
  have h1 : isLC e = false := by simpa using z.1
  refine ⟨sw_no h1 _ _ _, ?_, ?_⟩
  · have z2 := z.2
    cases tg <;> first | rfl | (cases e <;> first | rfl | exact swap_nest z2 | cases z2) | cases z2
  · have z2 := z.2
    cases tg <;> first | rfl | cases z2
theorem ss_asgF {t : T} {e : E} {tg ee : Expr} {pos : Pos} (he : SE X C e ee) (hg : SG X t tg) (ha : asgOk tg ee = true) (hk : ∀ i ∈ keep, i ∉ t.slots) : SS X C keep (.asg true t e) (.Assign [tg] ee pos) := by
  intro ρ fl hev σ H Hf α τ R w D k
  obtain ⟨x, ρ1, e1, hev⟩ := bd_inv hev
  obtain ⟨ρ2, e2, hev⟩ := b1_inv (show b1 (bindT t x.d ρ1) _ = some fl from hev)
  cases hev
  obtain ⟨a1, a2, a3⟩ := asg_facts ha pos.line X.env
  refine ps_ws (ps_asg we_pe wg_pg a1 a2 a3) ?_
  refine one he e1 R w _ fun H1 Hf1 α1 u s1 R1 w1 du => ?_
  exact hg x.d ρ1 ρ2 e2 σ H1 Hf1 α1 τ u R1 w1 du _ fun σ2 α2 R2 w2 k2 => k σ2 H1 Hf1 α2 s1 R2 w2 fun i hi => k2 i (hk i hi)
theorem ss_asgO (hc : Cn X G C n sc N) {i : Nat} {e : E} {x : Str} {p : Pos} {ee : Expr} {pos : Pos} (he : SE X C e ee) (hi : N[i]? = some x) (hl : locC sc x = true) (ha : asgOk (.Name x p) ee = true) (hk : ∀ j ∈ keep, j ≠ i) : SS X C keep (.asg false (.nm i) e) (.Assign [.Name x p] ee pos) := by
  intro ρ fl hev σ H Hf α τ R w D k
  obtain ⟨o, ρ1, e1, hev⟩ := bd_inv hev
  cases hev
  obtain ⟨a1, a2, a3⟩ := asg_facts ha pos.line X.env
  refine ps_ws (ps_asg we_pe (pg_name (i := i) (by rw [hc.hN]; exact hc.nd) (by rw [hc.hN]; exact hi) (hc.loc hl).1 (hc.loc hl).2) a1 a2 a3) ?_
  refine he ρ o ρ1 e1 σ H Hf α τ R w _ fun H1 Hf1 α1 y s1 R1 eo w1 => ?_
  have R2 := R1.set i y
  rw [eo] at R2
  exact k _ H1 Hf1 _ s1 R2 w1.store fun j hj => List.getElem?_set_ne (Ne.symm (hk j hj))
/-- y = [..], the name a local: the list's own store -/
theorem ss_lcF (hc : Cn X G C n sc N) (hsc : X.env.scope = sc) {f : Bool} {j : Nat} {y : Str} {py spos : Pos} {own : List Nat} {tg : T} {it : It} {cnd elt : E} {etg eit eelt : Expr} {ifs : List Expr} {scope : Scope} {pos : Pos} (nd : own.Nodup) (hsub : ∀ i ∈ tg.slots, i ∈ own) (hb : blkC N sc scope (ownP N own) = true)
    (hi : SI X C it etg eit) (hg : ∀ b : Blk, SG (PF.Cx.bk X scope b) tg etg) (ht : ∀ b : Blk, SF (PF.Cx.bk X scope b) C cnd ifs) (he : ∀ b : Blk, SE (PF.Cx.bk X scope b) C elt eelt) (hk : kindOk eit = true)
    (hy : N[j]? = some y) (hyl : sc.names.lookup y = some .local) (hl : (py.line == pos.line) = true) (ha : (scope.names.any fun (n, k) => n == y && (k == .local || k == .cell)) = false) (hkp : ∀ i ∈ keep, i ≠ j) :
    SS X C keep (.asg f (.nm j) (.lc own tg it cnd elt)) (.Assign [.Name y py] (.ListComp eelt [⟨etg, eit, ifs, 0⟩] scope pos) spos) := by
  intro ρ fl hev σ H Hf α τ R w D k
  obtain ⟨o, ρ1, e1, hev⟩ := bd_inv hev
  intro pins s I
  have hyl' : X.env.scope.names.lookup y = some .local := by rw [hsc]; exact hyl
  have ps := ps_setLc (i := j) (y := y) (py := py) (own := ownP N own) (pos := pos) (spos := spos) (elt := eelt) (tg := etg) (iter := eit) (ifs := ifs) (scope := scope) hc.calm (by rw [hc.hN]; exact hc.nd) (by rw [hc.hN]; exact hy) hyl' (sw_true I.ok.kind hyl' hl ha) wi_pi (blk_ok hc hb) (fun s H A cl fp => gU_pg (s, H, A, cl, fp)) (fun s H A cl fp => tU_pt (s, H, A, cl, fp)) (fun s H A cl fp => eU_pe (s, H, A, cl, fp)) (set_ok hk _)
  refine ps.run pins s σ H D I ?_
  rw [ownP_snd]
  refine lc_read hc nd hsub hi hg ht he e1 R w _ fun H1 Hf1 α1 x s1 R1 eo w1 => ?_
  have kk : Kp keep σ (σ.set j (some x.v)) := fun i hi => List.getElem?_set_ne (Ne.symm (hkp i hi))
  cases f with
  | true =>
    cases hev
    obtain ⟨Hf2, s2, w2⟩ := w1.freeze
    have R2 := R1.set j (.fz x.v x.o.d)
    rw [eo] at R2 w2
    exact k _ H1 Hf2 _ (s1.trans s2) R2 w2.store kk
  | false =>
    cases hev
    have R2 := R1.set j x
    rw [eo] at R2
    exact k _ H1 Hf1 _ s1 R2 w1.store kk
theorem ss_lc2F (hc : Cn X G C n sc N) (hsc : X.env.scope = sc) {f : Bool} {j : Nat} {y : Str} {py spos : Pos} {own own1 : List Nat} {tg tg1 : T} {it it1 : It} {cnd elt : E} {etg eit etg1 eit1 eelt : Expr} {ifs : List Expr} {scope : Scope} {pos : Pos} (nd : own.Nodup) (nd1 : own1.Nodup) (hsub : ∀ i ∈ tg.slots, i ∈ own) (hsub1 : ∀ i ∈ tg1.slots, i ∈ own1) (ho : ∀ i ∈ own1, i ∈ own) (hb : blkC N sc scope (ownP N own) = true)
    (hi : SI X C it etg eit) (hg : ∀ b : Blk, SG (PF.Cx.bk X scope b) tg etg) (hi1 : ∀ b : Blk, SI (PF.Cx.bk X scope b) C it1 etg1 eit1) (hg1 : ∀ b : Blk, SG (PF.Cx.bk X scope b) tg1 etg1) (ht : ∀ b : Blk, SF (PF.Cx.bk X scope b) C cnd ifs) (he : ∀ b : Blk, SE (PF.Cx.bk X scope b) C elt eelt) (hk : kindOk eit = true) (hk1 : kindOk eit1 = true)
    (hy : N[j]? = some y) (hyl : sc.names.lookup y = some .local) (hl : (py.line == pos.line) = true) (ha : (scope.names.any fun (n, k) => n == y && (k == .local || k == .cell)) = false) (hkp : ∀ i ∈ keep, i ≠ j) :
    SS X C keep (.asg f (.nm j) (.lc2 own own1 tg it tg1 it1 cnd elt)) (.Assign [.Name y py] (.ListComp eelt [⟨etg, eit, [], 0⟩, ⟨etg1, eit1, ifs, 0⟩] scope pos) spos) := by
  intro ρ fl hev σ H Hf α τ R w D k
  obtain ⟨o, ρ1, e1, hev⟩ := bd_inv hev
  intro pins s I
  have hyl' : X.env.scope.names.lookup y = some .local := by rw [hsc]; exact hyl
  have ps := ps_setLc2 (i := j) (y := y) (py := py) (own := ownP N own) (vs1 := own1) (pos := pos) (spos := spos) (elt := eelt) (tg := etg) (iter := eit) (ifs := []) (tg1 := etg1) (iter1 := eit1) (ifs1 := ifs) (scope := scope) hc.calm (by rw [hc.hN]; exact hc.nd) (by rw [hc.hN]; exact hy) hyl' (sw_true I.ok.kind hyl' hl ha) wi_pi (blk_ok hc hb) (by rw [ownP_snd]; exact ho) (fun s H A cl fp => gU_pg (s, H, A, cl, fp)) (fun s H A cl fp => tU_pt (s, H, A, cl, fp)) (fun s H A cl fp => iU_pi (s, H, A, cl, fp)) (fun s H A cl fp => gU_pg (s, H, A, cl, fp)) (fun s H A cl fp => tU_pt (s, H, A, cl, fp)) (fun s H A cl fp => eU_pe (s, H, A, cl, fp)) (set_ok hk _) (fun env x => set_ok hk1 env x)
  refine ps.run pins s σ H D I ?_
  rw [ownP_snd]
  refine lc2_read hc nd nd1 hsub hsub1 ho hi hg hi1 hg1 ht he e1 R w _ fun H1 Hf1 α1 x s1 R1 eo w1 => ?_
  have kk : Kp keep σ (σ.set j (some x.v)) := fun i hi => List.getElem?_set_ne (Ne.symm (hkp i hi))
  cases f with
  | true =>
    cases hev
    obtain ⟨Hf2, s2, w2⟩ := w1.freeze
    have R2 := R1.set j (.fz x.v x.o.d)
    rw [eo] at R2 w2
    exact k _ H1 Hf2 _ (s1.trans s2) R2 w2.store kk
  | false =>
    cases hev
    have R2 := R1.set j x
    rw [eo] at R2
    exact k _ H1 Hf1 _ s1 R2 w1.store kk
/-- .. where the store is an ordinary one (a name that is a cell) -/
theorem sw_cell {e : Expr} {env : PySem.Env} {y : Str} {py : Pos} {l : Nat} (h : env.kindOf y = some .cell) : swapsWith e (some (.Name y py)) l env = pure false := by
  unfold swapsWith
  cases e <;> first | rfl | (simp only [h]; cases env.blockKind <;> rfl)
theorem ss_lcC (hc : Cn X G C n sc N) {f : Bool} {i : Nat} {e : E} {x : Str} {p : Pos} {ee : Expr} {pos : Pos} (he : SE X C e ee) (hi : N[i]? = some x) (hl : sc.names.lookup x = some .cell) (hk : ∀ j ∈ keep, j ≠ i) : SS X C keep (.asg f (.nm i) e) (.Assign [.Name x p] ee pos) := by
  intro ρ fl hev σ H Hf α τ R w D k
  obtain ⟨o, ρ1, e1, hev⟩ := bd_inv hev
  have hl2 : locC sc x = true := by unfold locC; rw [hl]
  have hcell : X.env.kindOf x = some .cell := hc.lk x _ hl (by decide)
  refine ps_ws (ps_set (i := i) (by rw [hc.hN]; exact hc.nd) (by rw [hc.hN]; exact hi) (hc.loc hl2).1 we_pe (sw_cell hcell) (hc.loc hl2).2) ?_
  refine he ρ o ρ1 e1 σ H Hf α τ R w _ fun H1 Hf1 α1 y s1 R1 eo w1 => ?_
  have kk : Kp keep σ (σ.set i (some y.v)) := fun j hj => List.getElem?_set_ne (Ne.symm (hk j hj))
  cases f with
  | true =>
    cases hev
    obtain ⟨Hf2, s2, w2⟩ := w1.freeze
    have R2 := R1.set i (.fz y.v y.o.d)
    rw [eo] at R2 w2
    exact k _ H1 Hf2 _ (s1.trans s2) R2 w2.store kk
  | false =>
    cases hev
    have R2 := R1.set i y
    rw [eo] at R2
    exact k _ H1 Hf1 _ s1 R2 w1.store kk
/-! ### several names at once -/
def setS : List (Nat × Bool) → List V → L2.St → L2.St
  | (i, _) :: is, v :: vs, σ => setS is vs (σ.set i (some v))
  | _, _, σ => σ
theorem par_store {K : PySem.W.Frag} {H : Hp} {τ : List OA} : ∀ {fs : List (Nat × Bool)} {xs : List OA} {Hf : Hp} {ρ ρ' : Env} {σ : L2.St} {α : An}, setPar fs (OA.os xs) ρ = some ρ' → Rel σ ρ α → WR K Hf H (xs ++ (tr α ++ τ)) →
    ∃ (Hf' : Hp) (α' : An), Same Hf Hf' ∧ Rel (setS fs (xs.map OA.v) σ) ρ' α' ∧ WR K Hf' H (tr α' ++ τ)
  | [], [], Hf, ρ, ρ', σ, α, h, R, w => by
    cases h
    exact ⟨Hf, α, Same.refl _, R, w⟩
  | [], x :: xs, Hf, ρ, ρ', σ, α, h, R, w => by cases h
  | (i, f) :: fs, [], Hf, ρ, ρ', σ, α, h, R, w => by cases h
  | (i, f) :: fs, x :: xs, Hf, ρ, ρ', σ, α, h, R, w => by
    have fin : ∀ (y : OA) (Hf1 : Hp), Same Hf Hf1 → y.v = x.v → setPar fs (OA.os xs) (ρ.set i (some y.o)) = some ρ' → WR K Hf1 H (y :: (xs ++ (tr α ++ τ))) → ∃ (Hf' : Hp) (α' : An), Same Hf Hf' ∧ Rel (setS ((i, f) :: fs) ((x :: xs).map OA.v) σ) ρ' α' ∧ WR K Hf' H (tr α' ++ τ) := by
      intro y Hf1 s1 ev h1 w1
      have w2 : WR K Hf1 H (y :: (tr α ++ (xs ++ τ))) := w1.perm (List.Perm.cons y (by
        rw [← List.append_assoc, ← List.append_assoc]
        exact List.Perm.append_right τ List.perm_append_comm))
      have w3 : WR K Hf1 H (xs ++ (tr (α.set i (some y)) ++ τ)) := (w2.store (i := i)).perm (by
        rw [← List.append_assoc, ← List.append_assoc]
        exact List.Perm.append_right τ List.perm_append_comm)
      obtain ⟨Hf2, α2, s2, R2, w4⟩ := par_store h1 (R.set i y) w3
      refine ⟨Hf2, α2, s1.trans s2, ?_, w4⟩
      show Rel (setS fs (xs.map OA.v) (σ.set i (some x.v))) ρ' α2
      rw [← ev]
      exact R2
    cases f with
    | true =>
      obtain ⟨Hf1, s1, w1⟩ := WR.freeze (x := x) (T := xs ++ (tr α ++ τ)) w
      exact fin (.fz x.v x.o.d) Hf1 s1 rfl h w1
    | false => exact fin x Hf (Same.refl _) rfl h w
theorem setS_keep {keep : List Nat} : ∀ {fs : List (Nat × Bool)} {vs : List V} {σ : L2.St}, (∀ i ∈ keep, ∀ p ∈ fs, p.1 ≠ i) → Kp keep σ (setS fs vs σ)
  | [], vs, σ, _ => by cases vs <;> exact Kp.refl
  | (i, f) :: fs, [], σ, _ => Kp.refl
  | (i, f) :: fs, v :: vs, σ, h => by
    have k1 : Kp keep σ (σ.set i (some v)) := fun j hj => List.getElem?_set_ne (h j hj _ List.mem_cons_self)
    exact k1.trans (setS_keep fun j hj p hp => h j hj p (List.mem_cons_of_mem _ hp))
/-- the targets of such an assignment -/
def parT (sc : Scope) (N : List Str) : List (Nat × Bool) → List Expr → Bool
  | [], [] => true
  | (i, _) :: fs, .Name x _ :: es => decide (N[i]? = some x) && locC sc x && parT sc N fs es
  | _, _ => false
theorem wgs_par (hc : Cn X G C n sc N) {H : Hp} : ∀ {fs : List (Nat × Bool)} {es : List Expr} {vs : List V} {σ : L2.St} {Q : L2.St → Hp → Prop}, parT sc N fs es = true → vs.length = fs.length → Q (setS fs vs σ) H → WGs X es vs σ H Q
  | [], [], [], σ, Q, _, _, q => pgs_wgs pgs_nil ⟨rfl, q⟩
  | (i, f) :: fs, .Name x p :: es, v :: vs, σ, Q, h, hl, q => by
    have z := Bool.and_eq_true_iff.mp (show (decide (N[i]? = some x) && locC sc x && parT sc N fs es) = true from h)
    have z1 := Bool.and_eq_true_iff.mp z.1
    refine pgs_wgs (pgs_cons (pg_name (i := i) (by rw [hc.hN]; exact hc.nd) (by rw [hc.hN]; exact of_decide_eq_true z1.1) (hc.loc z1.2).1 (hc.loc z1.2).2) wgs_pgs rfl) ⟨v, vs, rfl, ?_⟩
    exact wgs_par hc z.2 (by simpa using hl) q
  | [], [], _ :: _, _, _, _, hl, _ => by cases hl
  | _ :: _, _, [], _, _, _, hl, _ => by cases hl
  | [], e :: es, _, _, _, h, _, _ => by cases e <;> cases h
  | (i, f) :: fs, [], _, _, _, h, _, _ => by cases h
  | (i, f) :: fs, .BoolOp .. :: _, _ :: _, _, _, h, _, _ => by cases h
  | (i, f) :: fs, .NamedExpr .. :: _, _ :: _, _, _, h, _, _ => by cases h
  | (i, f) :: fs, .BinOp .. :: _, _ :: _, _, _, h, _, _ => by cases h
  | (i, f) :: fs, .UnaryOp .. :: _, _ :: _, _, _, h, _, _ => by cases h
  | (i, f) :: fs, .Lambda .. :: _, _ :: _, _, _, h, _, _ => by cases h
  | (i, f) :: fs, .IfExp .. :: _, _ :: _, _, _, h, _, _ => by cases h
  | (i, f) :: fs, .Dict .. :: _, _ :: _, _, _, h, _, _ => by cases h
  | (i, f) :: fs, .Set .. :: _, _ :: _, _, _, h, _, _ => by cases h
  | (i, f) :: fs, .ListComp .. :: _, _ :: _, _, _, h, _, _ => by cases h
  | (i, f) :: fs, .SetComp .. :: _, _ :: _, _, _, h, _, _ => by cases h
  | (i, f) :: fs, .DictComp .. :: _, _ :: _, _, _, h, _, _ => by cases h
  | (i, f) :: fs, .GeneratorExp .. :: _, _ :: _, _, _, h, _, _ => by cases h
  | (i, f) :: fs, .Await .. :: _, _ :: _, _, _, h, _, _ => by cases h
  | (i, f) :: fs, .Yield .. :: _, _ :: _, _, _, h, _, _ => by cases h
  | (i, f) :: fs, .YieldFrom .. :: _, _ :: _, _, _, h, _, _ => by cases h
  | (i, f) :: fs, .Compare .. :: _, _ :: _, _, _, h, _, _ => by cases h
  | (i, f) :: fs, .Call .. :: _, _ :: _, _, _, h, _, _ => by cases h
  | (i, f) :: fs, .FormattedValue .. :: _, _ :: _, _, _, h, _, _ => by cases h
  | (i, f) :: fs, .JoinedStr .. :: _, _ :: _, _, _, h, _, _ => by cases h
  | (i, f) :: fs, .Constant .. :: _, _ :: _, _, _, h, _, _ => by cases h
  | (i, f) :: fs, .Attribute .. :: _, _ :: _, _, _, h, _, _ => by cases h
  | (i, f) :: fs, .Subscript .. :: _, _ :: _, _, _, h, _, _ => by cases h
  | (i, f) :: fs, .Starred .. :: _, _ :: _, _, _, h, _, _ => by cases h
  | (i, f) :: fs, .List .. :: _, _ :: _, _, _, h, _, _ => by cases h
  | (i, f) :: fs, .Tuple .. :: _, _ :: _, _, _, h, _, _ => by cases h
  | (i, f) :: fs, .Slice .. :: _, _ :: _, _, _, h, _, _ => by cases h
theorem setPar_len : ∀ {fs : List (Nat × Bool)} {os : List OV} {ρ ρ' : Env}, setPar fs os ρ = some ρ' → os.length = fs.length
  | [], [], _, _, _ => rfl
  | [], _ :: _, _, _, h => by cases h
  | (_, _) :: _, [], _, _, h => by cases h
  | (i, f) :: fs, o :: os, ρ, ρ', h => by
    rw [List.length_cons, List.length_cons, setPar_len (fs := fs) (os := os) h]
/-- by a tuple that is made and taken apart -/
theorem ss_parN (hc : Cn X G C n sc N) (hsc : X.env.scope = sc) {fs : List (Nat × Bool)} {es : Es} {ts vs : List Expr} {k k2 : Nat} {p p2 pos : Pos} (hs : SEs X C es vs) (hsw : swapO (fun x => sc.names.lookup x) ts vs = some none) (ht : parT sc N fs ts = true) (hk : kindOks ts = true) (hl : ts.length = fs.length) (hz : fs.length ≤ 100)
    (hkp : ∀ i ∈ keep, ∀ p ∈ fs, p.1 ≠ i) : SS X C keep (.par fs es) (.Assign [.Tuple ts k p] (.Tuple vs k2 p2) pos) := by
  intro ρ fl hev σ H Hf α τ R w D kk
  obtain ⟨xs, ρ1, e1, hev⟩ := bd_inv hev
  obtain ⟨ρ2, e2, hev⟩ := b1_inv hev
  cases hev
  intro pins s I
  have hsw' : swappedStores [.Tuple ts k p] (.Tuple vs k2 p2) X.env = pure none := swap_eq I.ok.kind (by
    have : X.env.kindOf = fun x => sc.names.lookup x := by funext x; unfold Env.kindOf; rw [hsc]
    rw [this]; exact hsw)
  refine (ps_asg (pos := pos) (pe_tup wa_pa) (pg_tup hc.calm wgs_pgs (asg_len hk).1 (asg_len hk).2) rfl hsw' rfl).run pins s σ H D I ?_
  refine hs ρ xs ρ1 e1 σ H Hf α τ R w _ fun H1 Hf1 α1 ys s1 R1 eos w1 => ⟨?_, fun t ht0 => ?_⟩
  · rw [List.length_map, ← os_len, eos, setPar_len e2]
    exact Nat.le_trans hz (by decide)
  · obtain ⟨nf, np⟩ := w1.fresh ht0
    have w2 : WR X.K Hf1 (upd H1 t (.tup (ys.map OA.v))) (ys ++ (tr α1 ++ τ)) := ⟨same_updR w1.sub nf, OA.oks_stay (Same.refl _) w1.ok fun a ha => ⟨upd_ne fun e => np (e ▸ ha), (OA.oks_some w1.ok a ha).2⟩, w1.nd⟩
    refine ⟨t, ys.map OA.v, rfl, SqT.of upd_same, by rw [List.length_map, ← os_len, eos, setPar_len e2]; exact hl.symm, ?_⟩
    rw [← eos] at e2
    obtain ⟨Hf2, α2, s2, R2, w3⟩ := par_store e2 R1 w2
    refine wgs_par hc ht (by rw [List.length_map, ← os_len, setPar_len e2]) ?_
    exact kk _ _ Hf2 α2 (s1.trans s2) R2 w3 (setS_keep hkp)
/-- two, three names at once, no tuple made -/
theorem ss_par2 (hc : Cn X G C n sc N) (hsc : X.env.scope = sc) {i j : Nat} {f g : Bool} {x y : Str} {px py : Pos} {es : Es} {a b : Expr} {k k2 : Nat} {p p2 pos : Pos} (hs : SEs X C es [a, b]) (hsw : swapO (fun x => sc.names.lookup x) [.Name x px, .Name y py] [a, b] = some (some [x, y])) (hi : N[i]? = some x) (hj : N[j]? = some y) (hij : i ≠ j)
    (hx : sc.names.lookup x = some .local) (hy : sc.names.lookup y = some .local) (hkp : ∀ l ∈ keep, ∀ p ∈ [(i, f), (j, g)], p.1 ≠ l) : SS X C keep (.par [(i, f), (j, g)] es) (.Assign [.Tuple [.Name x px, .Name y py] k p] (.Tuple [a, b] k2 p2) pos) := by
  intro ρ fl hev σ H Hf α τ R w D kk
  obtain ⟨xs, ρ1, e1, hev⟩ := bd_inv hev
  obtain ⟨ρ2, e2, hev⟩ := b1_inv hev
  cases hev
  intro pins s I
  have hsw' : swappedStores [.Tuple [.Name x px, .Name y py] k p] (.Tuple [a, b] k2 p2) X.env = pure (some [x, y]) := swap_eq I.ok.kind (by
    have : X.env.kindOf = fun x => sc.names.lookup x := by funext x; unfold Env.kindOf; rw [hsc]
    rw [this]; exact hsw)
  refine (ps_par (pos := pos) hc.calm (by rw [hc.hN]; exact hc.nd) (by rw [hc.hN]; exact hi) (by rw [hc.hN]; exact hj) hij (by rw [hsc]; exact hx) (by rw [hsc]; exact hy) wa_pa hsw' rfl).run pins s σ H D I ?_
  refine hs ρ xs ρ1 e1 σ H Hf α τ R w _ fun H1 Hf1 α1 ys s1 R1 eos w1 => ?_
  have hl := setPar_len e2
  rw [← eos, os_len] at hl
  match ys, hl with
  | [u, v], _ =>
    rw [← eos] at e2
    obtain ⟨Hf2, α2, s2, R2, w3⟩ := par_store e2 R1 w1
    exact ⟨u.v, v.v, rfl, kk _ _ Hf2 α2 (s1.trans s2) R2 w3 (setS_keep (fs := [(i, f), (j, g)]) (vs := [u.v, v.v]) hkp)⟩
theorem ss_par3 (hc : Cn X G C n sc N) (hsc : X.env.scope = sc) {i j l : Nat} {f g h : Bool} {x y z : Str} {px py pz : Pos} {es : Es} {a b c : Expr} {k k2 : Nat} {p p2 pos : Pos} (hs : SEs X C es [a, b, c]) (hsw : swapO (fun x => sc.names.lookup x) [.Name x px, .Name y py, .Name z pz] [a, b, c] = some (some [x, y, z])) (hi : N[i]? = some x) (hj : N[j]? = some y) (hl : N[l]? = some z) (hij : i ≠ j) (hil : i ≠ l) (hjl : j ≠ l)
    (hx : sc.names.lookup x = some .local) (hy : sc.names.lookup y = some .local) (hz : sc.names.lookup z = some .local) (hkp : ∀ m ∈ keep, ∀ p ∈ [(i, f), (j, g), (l, h)], p.1 ≠ m) : SS X C keep (.par [(i, f), (j, g), (l, h)] es) (.Assign [.Tuple [.Name x px, .Name y py, .Name z pz] k p] (.Tuple [a, b, c] k2 p2) pos) := by
  intro ρ fl hev σ H Hf α τ R w D kk
  obtain ⟨xs, ρ1, e1, hev⟩ := bd_inv hev
  obtain ⟨ρ2, e2, hev⟩ := b1_inv hev
  cases hev
  intro pins s I
  have hsw' : swappedStores [.Tuple [.Name x px, .Name y py, .Name z pz] k p] (.Tuple [a, b, c] k2 p2) X.env = pure (some [x, y, z]) := swap_eq I.ok.kind (by
    have : X.env.kindOf = fun x => sc.names.lookup x := by funext x; unfold Env.kindOf; rw [hsc]
    rw [this]; exact hsw)
  refine (ps_par3 (pos := pos) hc.calm (by rw [hc.hN]; exact hc.nd) (by rw [hc.hN]; exact hi) (by rw [hc.hN]; exact hj) (by rw [hc.hN]; exact hl) hij hil hjl (by rw [hsc]; exact hx) (by rw [hsc]; exact hy) (by rw [hsc]; exact hz) wa_pa hsw' rfl).run pins s σ H D I ?_
  refine hs ρ xs ρ1 e1 σ H Hf α τ R w _ fun H1 Hf1 α1 ys s1 R1 eos w1 => ?_
  have hl := setPar_len e2
  rw [← eos, os_len] at hl
  match ys, hl with
  | [u, v, t], _ =>
    rw [← eos] at e2
    obtain ⟨Hf2, α2, s2, R2, w3⟩ := par_store e2 R1 w1
    exact ⟨u.v, v.v, t.v, rfl, kk _ _ Hf2 α2 (s1.trans s2) R2 w3 (setS_keep (fs := [(i, f), (j, g), (l, h)]) (vs := [u.v, v.v, t.v]) hkp)⟩
end
end PF

/-! PF, twelfth part: stores into lists, branches, loops, returns, blocks. -/
namespace PF
open PySem PySem.Spec PyProof.Rows L2
theorem asg_sub {o i : Expr} {pos : Pos} {env : PySem.Env} (h : kindOk i = true) (v : Value) : assign (.Subscript o i pos) env v = (do
      let ov ← holding [v] (eval o env)
      let iv ← holding [v, ov] (eval i env)
      standAt pos
      holding [v, ov, iv] (setItem ov iv v)
      release [v, ov, iv] []) := by
  cases i <;> first | rfl | cases h
theorem os_set : ∀ (ys : List OA) (j : Nat) (y : OA), OA.os (ys.set j y) = (OA.os ys).set j y.o
  | [], _, _ => rfl
  | x :: xs, 0, y => rfl
  | x :: xs, j + 1, y => by
    show x.o :: OA.os (xs.set j y) = x.o :: (OA.os xs).set j y.o
    rw [os_set xs j y]
theorem set_perm : ∀ {ys : List OA} {j : Nat} {old y : OA}, ys[j]? = some old → (old :: (ys.set j y)).Perm (y :: ys)
  | [], _, _, _, h => by simp at h
  | x :: xs, 0, old, y, h => by
    have e : x = old := by simpa using h
    subst e
    exact List.Perm.swap _ _ _
  | x :: xs, j + 1, old, y, h => by
    have ih := set_perm (ys := xs) (j := j) (old := old) (y := y) (by simpa using h)
    show (old :: x :: xs.set j y).Perm (y :: x :: xs)
    exact (List.Perm.swap _ _ _).trans ((ih.cons x).trans (List.Perm.swap _ _ _))
section
variable {K : PySem.W.Frag} {Hf H : Hp} {T : List OA} {a : Addr} {xs : List OA}
/-- an item of a list of one's own exchanged -/
theorem WR.setAt {y old : OA} {j : Nat} (w : WR K Hf H (y :: .ol a xs :: T)) (h : xs[j]? = some old) : WR K Hf (upd H a (.lst ((xs.map OA.v).set j y.v))) (.ol a (xs.set j y) :: T) := by
  have w1 : WR K Hf H (.ol a xs :: y :: T) := w.perm (List.Perm.swap _ _ _)
  obtain ⟨w2, n, _, nf⟩ := w1.opened
  have p : (xs ++ y :: T).Perm (old :: (xs.set j y ++ T)) := by
    refine List.Perm.trans perm_mid ?_
    show ((y :: xs) ++ T).Perm ((old :: xs.set j y) ++ T)
    exact (set_perm h).symm.append_right T
  have w3 : WR K Hf H (old :: (xs.set j y ++ T)) := w2.perm p
  have n3 : a ∉ OA.ass (xs.set j y ++ T) := fun z => n ((ass_perm p).mem_iff.mpr (List.mem_append_right _ z))
  have w4 := w3.tail.closed nf n3
  rw [List.map_set] at w4
  exact w4
theorem out_perm : ∀ {ys : List OA} {j : Nat} {old : OA}, ys[j]? = some old → ys.Perm (old :: ys.eraseIdx j)
  | [], _, _, h => by simp at h
  | x :: xs, 0, old, h => by
    have e : x = old := by simpa using h
    subst e
    exact List.Perm.refl _
  | x :: xs, j + 1, old, h => by
    have ih := out_perm (ys := xs) (j := j) (old := old) (by simpa using h)
    show (x :: xs).Perm (old :: x :: xs.eraseIdx j)
    exact (ih.cons x).trans (List.Perm.swap _ _ _)
theorem in_perm : ∀ {ys : List OA} {j : Nat} {old y : OA}, ys[j]? = some old → (ys.set j y).Perm (y :: ys.eraseIdx j)
  | [], _, _, _, h => by simp at h
  | x :: xs, 0, old, y, h => List.Perm.refl _
  | x :: xs, j + 1, old, y, h => by
    have ih := in_perm (ys := xs) (j := j) (old := old) (y := y) (by simpa using h)
    show (x :: xs.set j y).Perm (y :: x :: xs.eraseIdx j)
    exact (ih.cons x).trans (List.Perm.swap _ _ _)
theorem upd_self {o : HO} (h : H a = some o) : upd H a o = H := by
  funext b
  unfold upd
  split
  · rename_i e
    rw [e, h]
  · rfl
/-- .. deeper: an item of a list that is an item -/
theorem WR.setIn {y old : OA} {b : Addr} {ys : List OA} {j m : Nat} (w : WR K Hf H (y :: .ol a xs :: T)) (h : xs[j]? = some (.ol b ys)) (h2 : ys[m]? = some old) :
    H b = some (.lst (ys.map OA.v)) ∧ WR K Hf (upd H b (.lst ((ys.map OA.v).set m y.v))) (.ol a (xs.set j (.ol b (ys.set m y))) :: T) := by
  have w1 : WR K Hf H (.ol a xs :: y :: T) := w.perm (List.Perm.swap _ _ _)
  obtain ⟨w2, n, ha, nf⟩ := w1.opened
  have p : (xs ++ y :: T).Perm (y :: .ol b ys :: (xs.eraseIdx j ++ T)) := by
    refine List.Perm.trans perm_mid (List.Perm.cons y ?_)
    exact (out_perm h).append_right T
  have w3 := w2.perm p
  have hb := w3.tail.ok.1.1
  have w4 := w3.setAt h2
  have n4 : a ∉ OA.ass (xs ++ y :: T) := n
  have ab : a ≠ b := fun e => n4 ((ass_perm p).mem_iff.mpr (by
    rw [e]
    exact List.mem_append_right _ (List.mem_append_left _ List.mem_cons_self)))
  have p5 : (.ol b (ys.set m y) :: (xs.eraseIdx j ++ T)).Perm (xs.set j (.ol b (ys.set m y)) ++ T) := by
    show ((.ol b (ys.set m y) :: xs.eraseIdx j) ++ T).Perm _
    exact ((in_perm h).append_right T).symm
  have w5 := w4.perm p5
  have n5 : a ∉ OA.ass (xs.set j (.ol b (ys.set m y)) ++ T) := fun z => by
    have z1 : a ∈ OA.ass (.ol b (ys.set m y) :: (xs.eraseIdx j ++ T)) := (ass_perm p5).mem_iff.mpr z
    have q : ∀ c ∈ OA.ass (ys.set m y), c ∈ OA.ass (y :: ys) := fun c hc => (ass_perm (set_perm (y := y) h2)).mem_iff.mp (List.mem_append_right _ hc)
    refine n4 ((ass_perm p).mem_iff.mpr ?_)
    rcases List.mem_append.mp z1 with z2 | z2
    · rcases List.mem_cons.mp z2 with z3 | z3
      · exact absurd z3 ab
      · rcases List.mem_append.mp (q a z3) with z4 | z4
        · exact List.mem_append_left _ z4
        · exact List.mem_append_right _ (List.mem_append_left _ (List.mem_cons_of_mem _ z4))
    · exact List.mem_append_right _ (List.mem_append_right _ z2)
  have w6 := w5.closed nf n5
  have e1 : (xs.set j (.ol b (ys.set m y))).map OA.v = xs.map OA.v := by
    rw [List.map_set]
    refine set_id ?_
    rw [List.getElem?_map, h]
    rfl
  rw [e1] at w6
  rw [upd_self (by rw [upd_ne ab]; exact ha)] at w6
  exact ⟨hb, w6⟩
end
section
variable {X : Cx} {G : Prg} {C : Ctx} {n : Nat} {sc : Scope} {N : List Str} {keep : List Nat}
theorem ixN_lt {k : Int} {m j : Nat} (h : PF.ixN m k = some j) : j < m := by
  unfold PF.ixN at h
  split at h
  · split at h
    · have e : k.toNat = j := Option.some.inj h
      omega
    · cases h
  · split at h
    · have e : (k + m).toNat = j := Option.some.inj h
      omega
    · cases h
theorem ss_setO (hc : Cn X G C n sc N) {i : Nat} {a e : E} {x : Str} {p p2 pos : Pos} {ea ee : Expr} (he : SE X C e ee) (ha : SE X C a ea) (hk : kindOk ea = true) (hlc : isLC ee = false) (hi : N[i]? = some x) (hv : visC sc x = true) (ho : okNm x = true) :
    SS X C keep (.setO i a e) (.Assign [.Subscript (.Name x p) ea p2] ee pos) := by
  intro ρ fl hev σ H Hf α τ R w D kk
  obtain ⟨o, ρ1, e1, hev⟩ := bd_inv hev
  obtain ⟨zs, e2, hev⟩ := b1_inv hev
  obtain ⟨y, ρ2, e3, hev⟩ := bd_inv hev
  obtain ⟨xs, e4, hev⟩ := b1_inv hev
  cases hy : y.d with
  | int k =>
    rw [hy] at hev
    obtain ⟨j, e5, hev⟩ := b1_inv (show b1 (PF.ixN xs.length k) _ = some fl from hev)
    cases hev
    obtain ⟨a1, a2, a3⟩ := asg_facts (tg := .Subscript (.Name x p) ea p2) (e := ee) (by unfold asgOk; rw [hlc]; rfl) pos.line X.env
    refine ps_ws (ps_asg we_pe (pg_sub (pe_var (i := i) (by rw [hc.hN]; exact hi) (hc.vis hv) (okNm_inv ho).1 (okNm_inv ho).2) we_pe set_list (asg_sub hk)) a1 a2 a3) ?_
    refine he ρ o ρ1 e1 σ H Hf α τ R w _ fun H1 Hf1 α1 t s1 R1 eo w1 => ?_
    obtain ⟨t0, f1, f2, f3⟩ := R1.slot (getL_inv e2)
    refine ⟨t0.v, f3, ?_⟩
    refine one ha e3 R1 (w1.perm perm_mid.symm) _ fun H2 Hf2 α2 u s2 R2 w2 du => ?_
    obtain ⟨t1, g1, g2, g3⟩ := R2.slot (getL_inv e4)
    obtain ⟨b, ys, rfl, g4⟩ := oa_ol g2
    rw [f3] at g3
    have ev : t0.v = .ref b := Option.some.inj (Option.some.inj g3)
    have w3 := w2.takeS g1
    have w4 : WR X.K Hf2 H2 (t :: .ol b ys :: (tr (α2.set i none) ++ τ)) := w3.perm ((List.Perm.cons _ perm_mid).trans (List.Perm.swap _ _ _))
    rw [← g4, os_len] at e5
    have hlt := ixN_lt e5
    rw [hy] at du
    refine ⟨b, ys.map OA.v, k, j, ev, dp_int du, w3.ok.1.1, by rw [List.length_map]; exact e5, ?_⟩
    have w5 := w4.setAt (List.getElem?_eq_getElem hlt)
    have hlen : i < α2.length := (List.getElem?_eq_some_iff.mp g1).1
    have R3 := R2.put (y := .ol b (ys.set j t)) g1 rfl
    have eq1 : (OA.ol b (ys.set j t)).o = .ol (xs.set j o) := by
      show OV.ol (OA.os (ys.set j t)) = _
      rw [os_set, g4, eo]
    rw [eq1] at R3
    exact kk _ _ Hf2 _ (s1.trans s2) R3 (w5.putS hlen) Kp.refl
  | _ => rw [hy] at hev; cases hev
theorem ss_setOO (hc : Cn X G C n sc N) {i : Nat} {a b e : E} {x : Str} {p p2 p3 pos : Pos} {ea eb ee : Expr} (he : SE X C e ee) (ha : SE X C a ea) (hb : SE X C b eb) (hk : kindOk ea = true) (hk2 : kindOk eb = true) (hlc : isLC ee = false) (hi : N[i]? = some x) (hv : visC sc x = true) (ho : okNm x = true) :
    SS X C keep (.setOO i a b e) (.Assign [.Subscript (.Subscript (.Name x p) ea p2) eb p3] ee pos) := by
  intro ρ fl hev σ H Hf α τ R w D kk
  obtain ⟨o, ρ1, e1, hev⟩ := bd_inv hev
  obtain ⟨zs, e2, hev⟩ := b1_inv hev
  obtain ⟨y, ρ2, e3, hev⟩ := bd_inv hev
  obtain ⟨xs, e4, hev⟩ := b1_inv hev
  cases hy : y.d with
  | int k =>
    rw [hy] at hev
    obtain ⟨j, e5, hev⟩ := b1_inv (show b1 (PF.ixN xs.length k) _ = some fl from hev)
    obtain ⟨ro, e6, hev⟩ := b1_inv hev
    cases ro with
    | ol ys =>
      obtain ⟨z, ρ3, e7, hev⟩ := bd_inv (show bd (evE C b (ρ2.set i none)) _ = some fl from hev)
      cases hz : z.d with
      | int l =>
        rw [hz] at hev
        obtain ⟨m, e8, hev⟩ := b1_inv (show b1 (PF.ixN ys.length l) _ = some fl from hev)
        cases hev
        obtain ⟨a1, a2, a3⟩ := asg_facts (tg := .Subscript (.Subscript (.Name x p) ea p2) eb p3) (e := ee) (by unfold asgOk; rw [hlc]; rfl) pos.line X.env
        refine ps_ws (ps_asg we_pe (pg_sub (pe_ix ix_list (pe_var (i := i) (by rw [hc.hN]; exact hi) (hc.vis hv) (okNm_inv ho).1 (okNm_inv ho).2) we_pe (plain_ix hk)) we_pe set_list (asg_sub hk2)) a1 a2 a3) ?_
        refine he ρ o ρ1 e1 σ H Hf α τ R w _ fun H1 Hf1 α1 t s1 R1 eo w1 => ?_
        obtain ⟨t0, f1, f2, f3⟩ := R1.slot (getL_inv e2)
        refine ⟨t0.v, f3, ?_⟩
        refine one ha e3 R1 (w1.perm perm_mid.symm) _ fun H2 Hf2 α2 u s2 R2 w2 du => ?_
        obtain ⟨t1, g1, g2, g3⟩ := R2.slot (getL_inv e4)
        obtain ⟨c, cs, rfl, g4⟩ := oa_ol g2
        have ev : t0.v = .ref c := by
          rw [f3] at g3
          exact Option.some.inj (Option.some.inj g3)
        have w3 := w2.takeS g1
        rw [hy] at du
        rw [← g4] at e5 e6
        rw [os_len] at e5
        obtain ⟨row, q1, q2⟩ := os_at e6
        obtain ⟨rb, rs, rfl, q3⟩ := oa_ol q2
        have hat : atI (cs.map OA.v) k = some (.ref rb) := by
          rw [← atD_eq]
          unfold atD
          rw [List.length_map, e5]
          show (cs.map OA.v)[j]? = _
          rw [List.getElem?_map, q1]
          rfl
        refine ⟨c, cs.map OA.v, k, .ref rb, ev, dp_int du, SqL.of w3.ok.1.1, hat, ?_⟩
        refine one hb e7 (R2.drop i) (τ := .ol c cs :: t :: τ) (w3.perm perm_mid.symm) _ fun H3 Hf3 α3 u2 s3 R3 w4 dz => ?_
        have w5 : WR X.K Hf3 H3 (t :: .ol c cs :: (tr α3 ++ τ)) := w4.perm ((perm_mid.trans (List.Perm.cons _ perm_mid)).trans (List.Perm.swap _ _ _))
        rw [hz] at dz
        rw [← q3, os_len] at e8
        have hlt := ixN_lt e8
        obtain ⟨hbb, w6⟩ := w5.setIn q1 (List.getElem?_eq_getElem hlt)
        refine ⟨rb, rs.map OA.v, l, m, rfl, dp_int dz, hbb, by rw [List.length_map]; exact e8, ?_⟩
        have R4 := R3.back (i := i) (t := .ol c (cs.set j (.ol rb (rs.set m t)))) (by rw [f3, ev]; rfl)
        have eq1 : (OA.ol c (cs.set j (.ol rb (rs.set m t)))).o = .ol (xs.set j (.ol (ys.set m o))) := by
          show OV.ol (OA.os (cs.set j (.ol rb (rs.set m t)))) = _
          rw [os_set, g4]
          show OV.ol (xs.set j (.ol (OA.os (rs.set m t)))) = _
          rw [os_set, q3, eo]
        rw [eq1] at R4
        exact kk _ _ Hf3 _ ((s1.trans s2).trans s3) R4 w6.store Kp.refl
      | _ => rw [hz] at hev; cases hev
    | fz o => cases hev
    | ot o => cases hev
  | _ => rw [hy] at hev; cases hev
theorem ss_appO (hc : Cn X G C n sc N) {i : Nat} {e : E} {x : Str} {p ap cp pos : Pos} {ee : Expr} (he : SE X C e ee) (hk : kindOk ee = true) (hl : (ap.endLine == cp.line) = true) (hi : N[i]? = some x) (hv : visC sc x = true) (ho : okNm x = true) :
    SS X C keep (.appO i e) (.Expr (.Call (.Attribute (.Name x p) "append" ap) [ee] [] cp) pos) := by
  intro ρ fl hev σ H Hf α τ R w D kk
  obtain ⟨zs, e0, hev⟩ := b1_inv hev
  obtain ⟨o, ρ1, e1, hev⟩ := bd_inv hev
  obtain ⟨xs, e2, hev⟩ := b1_inv hev
  obtain ⟨hz, hev⟩ := gd_inv hev
  cases hev
  have hfew : ((backTo cp (starEach [ee] X.env)).all (fun x => !x.1) && (backToKw cp (keywordEach [] X.env)).all (fun x => x.1.isSome) && decide ([ee].length + ([] : List Keyword).length + (if ([] : List Keyword).isEmpty then 0 else 1) < 30)) = true := by
    rw [star_ok hk]; rfl
  refine ps_ws (ps_expr (pe_bm PySem.F.plainAttrs_list PySem.F.slot_list_append PySem.F.type_list_append mt_append (pe_var (i := i) (by rw [hc.hN]; exact hi) (hc.vis hv) (okNm_inv ho).1 (okNm_inv ho).2) (pa_cons we_pe pa_nil (star_ok hk _ _)) rfl hfew hl (star_ok hk _ _) rfl) rfl) ?_
  obtain ⟨t0, f1, f2, f3⟩ := R.slot (getL_inv e0)
  obtain ⟨b0, bs, rfl, f4⟩ := oa_ol f2
  refine ⟨.ref b0, f3, .inl ⟨rfl, _, SqL.of (w.takeS f1).ok.1.1⟩, ?_⟩
  refine he ρ o ρ1 e1 σ H Hf α τ R w _ fun H1 Hf1 α1 t s1 R1 eo w1 => ?_
  obtain ⟨t1, g1, g2, g3⟩ := R1.slot (getL_inv e2)
  obtain ⟨b, ys, rfl, g4⟩ := oa_ol g2
  rw [f3] at g3
  have ev : V.ref b0 = .ref b := Option.some.inj (Option.some.inj g3)
  have w2 : WR X.K Hf1 H1 (.ol b ys :: (tr (α1.set i none) ++ (t :: τ))) := (w1.perm perm_mid.symm).takeS g1
  have w3 : WR X.K Hf1 H1 (t :: .ol b ys :: (tr (α1.set i none) ++ τ)) := w2.perm ((List.Perm.cons _ perm_mid).trans (List.Perm.swap _ _ _))
  refine ⟨b, ys.map OA.v, t.v, ev, rfl, w2.ok.1.1, ?_, ?_⟩
  · rw [List.length_map, ← os_len, g4]
    exact of_decide_eq_true hz
  · have hlen : i < α1.length := (List.getElem?_eq_some_iff.mp g1).1
    have R3 := R1.put (y := .ol b (ys ++ [t])) g1 rfl
    have eq1 : (OA.ol b (ys ++ [t])).o = .ol (xs ++ [o]) := by
      show OV.ol (OA.os (ys ++ [t])) = _
      rw [OA.os_map, List.map_append, ← OA.os_map, g4]
      show OV.ol (xs ++ [t.o]) = _
      rw [eo]
    rw [eq1] at R3
    exact kk _ _ Hf1 _ s1 R3 (w3.append.putS hlen) Kp.refl
theorem WR.pop {K : PySem.W.Frag} {Hf H : Hp} {T : List OA} {a : Addr} {xs : List OA} (w : WR K Hf H (.ol a xs :: T)) (h : xs ≠ []) : WR K Hf (upd H a (.lst (xs.map OA.v).dropLast)) (.ol a xs.dropLast :: T) := by
  obtain ⟨w2, n, _, nf⟩ := w.opened
  have e : xs ++ T = xs.dropLast ++ (xs.getLast h :: T) := by
    conv => lhs; rw [← List.dropLast_concat_getLast h]
    simp
  rw [e] at w2 n
  have p : (xs.dropLast ++ (xs.getLast h :: T)).Perm (xs.getLast h :: (xs.dropLast ++ T)) := perm_mid
  have w3 := (w2.perm p).tail
  have n3 : a ∉ OA.ass (xs.dropLast ++ T) := fun z => n ((ass_perm p).mem_iff.mpr (by
    show a ∈ OA.as (xs.getLast h) ++ OA.ass (xs.dropLast ++ T)
    exact List.mem_append_right _ z))
  have w4 := w3.closed nf n3
  rw [List.map_dropLast] at w4
  exact w4
theorem ss_popO (hc : Cn X G C n sc N) {i : Nat} {x : Str} {p ap cp pos : Pos} (hl : (ap.endLine == cp.line) = true) (hi : N[i]? = some x) (hv : visC sc x = true) (ho : okNm x = true) :
    SS X C keep (.popO i) (.Expr (.Call (.Attribute (.Name x p) "pop" ap) [] [] cp) pos) := by
  intro ρ fl hev σ H Hf α τ R w D kk
  obtain ⟨xs, e0, hev⟩ := b1_inv hev
  obtain ⟨hz, hev⟩ := gd_inv hev
  cases hev
  refine ps_ws (ps_expr (pe_bm0 PySem.F.plainAttrs_list PySem.F.slot_list_pop PySem.F.type_list_pop mt_pop (pe_var (i := i) (by rw [hc.hN]; exact hi) (hc.vis hv) (okNm_inv ho).1 (okNm_inv ho).2) rfl hl) rfl) ?_
  obtain ⟨t0, f1, f2, f3⟩ := R.slot (getL_inv e0)
  obtain ⟨b, ys, rfl, g4⟩ := oa_ol f2
  have w2 := w.takeS f1
  refine ⟨.ref b, f3, .inl ⟨rfl, _, SqL.of w2.ok.1.1⟩, ?_⟩
  have hp : 0 < ys.length := by
    rw [← os_len, g4]
    exact of_decide_eq_true hz
  have hne : ys ≠ [] := fun e => by rw [e] at hp; exact absurd hp (Nat.lt_irrefl 0)
  refine ⟨b, ys.map OA.v, (ys.getLast hne).v, rfl, rfl, w2.ok.1.1, ?_, ?_⟩
  · rw [List.length_map, List.getElem?_map, List.getElem?_eq_getElem (by omega), List.getLast_eq_getElem]
    rfl
  · have hlen : i < α.length := (List.getElem?_eq_some_iff.mp f1).1
    have R3 := R.put (y := .ol b ys.dropLast) f1 rfl
    have eq1 : (OA.ol b ys.dropLast).o = .ol xs.dropLast := by
      show OV.ol (OA.os ys.dropLast) = _
      rw [OA.os_map, List.map_dropLast, ← OA.os_map, g4]
    rw [eq1] at R3
    exact kk _ _ Hf _ (Same.refl _) R3 ((w2.pop hne).putS hlen) Kp.refl
theorem seqI_of {k : Int} {m j : Nat} (h : (if k < 0 then k + (m : Int) else k) = j) (hj : j < m) : seqIndex? k m = some j := by
  show (if (decide ((0 : Int) ≤ (if k < 0 then k + (m : Int) else k)) && decide ((if k < 0 then k + (m : Int) else k) < (m : Int))) = true then some (if k < 0 then k + (m : Int) else k).toNat else none) = some j
  rw [h, if_pos (by rw [Bool.and_eq_true]; exact ⟨decide_eq_true (by omega), decide_eq_true (by omega)⟩)]
  rfl
theorem ixN_seqI {k : Int} {m j : Nat} (h : PF.ixN m k = some j) : seqIndex? k m = some j := by
  have hj := ixN_lt h
  unfold PF.ixN at h
  refine seqI_of ?_ hj
  split at h
  · split at h
    · have e : k.toNat = j := Option.some.inj h
      rw [if_neg (by omega)]
      omega
    · cases h
  · split at h
    · have e : (k + m).toNat = j := Option.some.inj h
      rw [if_pos (by omega)]
      omega
    · cases h
theorem map_erase {α β : Type} (f : α → β) : ∀ (xs : List α) (j : Nat), (xs.map f).eraseIdx j = (xs.eraseIdx j).map f
  | [], _ => rfl
  | x :: xs, 0 => rfl
  | x :: xs, j + 1 => by
    show f x :: (xs.map f).eraseIdx j = f x :: (xs.eraseIdx j).map f
    rw [map_erase f xs j]
theorem WR.pick {K : PySem.W.Frag} {Hf H : Hp} {T : List OA} {a : Addr} {xs : List OA} {j : Nat} {t : OA} (w : WR K Hf H (.ol a xs :: T)) (h : xs[j]? = some t) : WR K Hf (upd H a (.lst ((xs.map OA.v).eraseIdx j))) (.ol a (xs.eraseIdx j) :: t :: T) := by
  obtain ⟨w2, n, _, nf⟩ := w.opened
  have p : (xs ++ T).Perm (xs.eraseIdx j ++ (t :: T)) := ((out_perm h).append_right T).trans perm_mid.symm
  have n3 : a ∉ OA.ass (xs.eraseIdx j ++ (t :: T)) := fun z => n ((ass_perm p).mem_iff.mpr z)
  have w4 := (w2.perm p).closed nf n3
  rw [← map_erase] at w4
  exact w4
theorem se_popI (hc : Cn X G C n sc N) {i : Nat} {e : E} {x : Str} {p ap cp : Pos} {ee : Expr} (he : SE X C e ee) (hk : kindOk ee = true) (hl : (ap.endLine == cp.line) = true) (hi : N[i]? = some x) (hv : visC sc x = true) (ho : okNm x = true) :
    SE X C (.popI i e) (.Call (.Attribute (.Name x p) "pop" ap) [ee] [] cp) := by
  intro ρ r ρ' hev σ H Hf α τ R w Q q
  obtain ⟨zs, e0, hev⟩ := b1_inv hev
  obtain ⟨y, ρ1, e1, hev⟩ := bd_inv hev
  obtain ⟨xs, e2, hev⟩ := b1_inv hev
  cases hy : y.d with
  | int k =>
    rw [hy] at hev
    obtain ⟨hz, hev⟩ := gd_inv (show gd (decide (xs.length ≤ SZ)) _ = some (r, ρ') from hev)
    obtain ⟨j, e3, hev⟩ := b1_inv hev
    obtain ⟨o, e4, hev⟩ := b1_inv hev
    cases hev
    have hfew : ((backTo cp (starEach [ee] X.env)).all (fun x => !x.1) && (backToKw cp (keywordEach [] X.env)).all (fun x => x.1.isSome) && decide ([ee].length + ([] : List Keyword).length + (if ([] : List Keyword).isEmpty then 0 else 1) < 30)) = true := by
      rw [star_ok hk]; rfl
    refine pe_we (pe_bm PySem.F.plainAttrs_list PySem.F.slot_list_pop PySem.F.type_list_pop mt_popAt (pe_var (i := i) (by rw [hc.hN]; exact hi) (hc.vis hv) (okNm_inv ho).1 (okNm_inv ho).2) (pa_cons we_pe pa_nil (star_ok hk _ _)) rfl hfew hl (star_ok hk _ _) rfl) ?_
    obtain ⟨t0, f1, f2, f3⟩ := R.slot (getL_inv e0)
    obtain ⟨b0, bs, rfl, f4⟩ := oa_ol f2
    refine ⟨.ref b0, f3, .inl ⟨rfl, _, SqL.of (w.takeS f1).ok.1.1⟩, ?_⟩
    refine one he e1 R w _ fun H1 Hf1 α1 u s1 R1 w1 du => ?_
    obtain ⟨t1, g1, g2, g3⟩ := R1.slot (getL_inv e2)
    obtain ⟨b, ys, rfl, g4⟩ := oa_ol g2
    rw [f3] at g3
    have ev : V.ref b0 = .ref b := Option.some.inj (Option.some.inj g3)
    have w2 := w1.takeS g1
    rw [hy] at du
    have hlt := ixN_lt e3
    have hsz : xs.length ≤ SZ := of_decide_eq_true hz
    have hylen : ys.length = xs.length := by rw [← os_len, g4]
    have hb : -(2 ^ 63 : Int) ≤ k ∧ k < 2 ^ 63 := by
      have h8 : (xs.length : Int) ≤ 16777216 := by
        have : xs.length ≤ 16777216 := hsz
        omega
      unfold PF.ixN at e3
      split at e3
      · split at e3
        · constructor <;> omega
        · cases e3
      · split at e3
        · constructor <;> omega
        · cases e3
    obtain ⟨t, q1, q2⟩ : ∃ t, ys[j]? = some t ∧ t.o = r := by
      rw [← g4, OA.os_map, List.getElem?_map] at e4
      cases e5 : ys[j]? with
      | none => rw [e5] at e4; cases e4
      | some t => rw [e5] at e4; exact ⟨t, rfl, Option.some.inj e4⟩
    have hlen : i < α1.length := (List.getElem?_eq_some_iff.mp g1).1
    have R3 := R1.put (y := .ol b (ys.eraseIdx j)) g1 rfl
    have eq1 : (OA.ol b (ys.eraseIdx j)).o = .ol (xs.eraseIdx j) := by
      show OV.ol (OA.os (ys.eraseIdx j)) = _
      rw [OA.os_map, ← map_erase, ← OA.os_map, g4]
    rw [eq1] at R3
    refine ⟨b, ys.map OA.v, k, j, t.v, ev, ?_, w2.ok.1.1, hb.1, hb.2, ?_, ?_, ?_⟩
    · rw [dp_int du]
    · rw [List.length_map, hylen]; exact ixN_seqI e3
    · rw [List.getElem?_map, q1]; rfl
    · have w3 : WR X.K Hf1 _ (.ol b (ys.eraseIdx j) :: (tr (α1.set i none) ++ (t :: τ))) := (w2.pick q1).perm (List.Perm.cons _ perm_mid.symm)
      exact q _ Hf1 _ t s1 R3 q2 ((w3.putS hlen).perm perm_mid)
  | _ => rw [hy] at hev; cases hev
theorem ss_ex {e : E} {ee : Expr} {pos : Pos} (he : SE X C e ee) (hlc : isLC ee = false) : SS X C keep (.ex e) (.Expr ee pos) := by
  intro ρ fl hev σ H Hf α τ R w D kk
  obtain ⟨o, ρ1, e1, hev⟩ := bd_inv hev
  cases hev
  refine ps_ws (ps_expr we_pe (sw_no hlc _ _ _)) ?_
  exact he ρ o ρ1 e1 σ H Hf α τ R w _ fun H1 Hf1 α1 t s1 R1 eo w1 => kk _ _ Hf1 α1 s1 R1 w1.tail Kp.refl
theorem ss_iff {t : E} {a b : Ss} {et : Expr} {sa sb : List Stmt} {pos : Pos} (ht : ST X C t et) (ha : SSs X C keep a sa) (hb : SSs X C keep b sb) : SS X C keep (.iff t a b) (.If et sa sb pos) := by
  intro ρ fl hev σ H Hf α τ R w D kk
  obtain ⟨o, ρ1, e1, hev⟩ := bd_inv hev
  obtain ⟨c, e2, hev⟩ := b1_inv hev
  refine ps_ws (ps_if wt_pt wss_pss wss_pss) ?_
  refine ht ρ o ρ1 c e1 e2 σ H Hf α τ R w _ fun H1 Hf1 α1 s1 R1 w1 => ?_
  cases c with
  | true => exact iteT (ha ρ1 fl hev σ H1 Hf1 α1 τ R1 w1 D (kk.mono s1 Kp.refl))
  | false => exact iteF (hb ρ1 fl hev σ H1 Hf1 α1 τ R1 w1 D (kk.mono s1 Kp.refl))
theorem ss_ret {e : E} {ee : Expr} {pos : Pos} (he : SE X C e ee) : SS X C keep (.ret e) (.Return (some ee) pos) := by
  intro ρ fl hev σ H Hf α τ R w D kk
  obtain ⟨o, ρ1, e1, hev⟩ := bd_inv hev
  cases hev
  refine ps_ws (ps_ret we_pe) ?_
  exact he ρ o ρ1 e1 σ H Hf α τ R w _ fun H1 Hf1 α1 t s1 R1 eo w1 => kk σ _ Hf1 α1 t s1 R1 eo w1 Kp.refl
theorem ss_retn {pos : Pos} : SS X C keep .retn (.Return none pos) := by
  intro ρ fl hev σ H Hf α τ R w D kk
  cases hev
  exact ps_ws ps_retN (kk σ _ Hf α (.fz .non .none) (Same.refl _) R rfl (w.addF .non) Kp.refl)
theorem ss_pas {pos : Pos} : SS X C keep .pas (.Pass pos) := by
  intro ρ fl hev σ H Hf α τ R w D kk
  cases hev
  exact ps_ws ps_pass (kk σ _ Hf α (Same.refl _) R w Kp.refl)
theorem ss_brk {pos : Pos} : SS X C keep .brk (.Break pos) := by
  intro ρ fl hev σ H Hf α τ R w D kk
  cases hev
  exact ps_ws ps_break (kk σ _ Hf α (Same.refl _) R w Kp.refl)
theorem ss_cnt {pos : Pos} : SS X C keep .cnt (.Continue pos) := by
  intro ρ fl hev σ H Hf α τ R w D kk
  cases hev
  exact ps_ws ps_continue (kk σ _ Hf α (Same.refl _) R w Kp.refl)
theorem never_cn (hc : Cn X G C n sc N) : PassesOwn (model X.prog X.w) X.A X.env X.xe := by
  rw [hc.xe]
  exact PassesOwn.never
theorem ss_whl (hc : Cn X G C n sc N) {t : E} {b : Ss} {et : Expr} {sb : List Stmt} {pos : Pos} (ht : ST X C t et) (hb : SSs X C keep b sb) : SS X C keep (.whl t b) (.While et sb [] pos) := by
  intro ρ fl hev σ H Hf α τ R w D kk
  refine ps_ws (ps_while (never_cn hc) wt_pt wss_pss) ?_
  have hev : whlL (fun ρ => bd (evE C t ρ) fun x ρ1 => b1 (truD x.d) fun t => some (t, ρ1)) (fun ρ => evSs C b ρ) C.W ρ = some fl := hev
  refine ⟨fun m σ' H' => ∃ (ρi : Env) (Hf' : Hp) (αi : An), Same Hf Hf' ∧ Rel σ' ρi αi ∧ WR X.K Hf' H' (tr αi ++ τ) ∧ Kp keep σ σ' ∧ whlL (fun ρ => bd (evE C t ρ) fun x ρ1 => b1 (truD x.d) fun t => some (t, ρ1)) (fun ρ => evSs C b ρ) m ρi = some fl, ⟨C.W, ρ, Hf, α, Same.refl _, R, w, Kp.refl, hev⟩, ?_⟩
  rintro m σ1 H1 ⟨ρi, Hf1, αi, s1, R1, w1, k1, ev1⟩
  cases m with
  | zero => cases ev1
  | succ m =>
    obtain ⟨c, ρ1, e1, ev1⟩ := bd_inv (show bd (bd (evE C t ρi) fun x ρ1 => b1 (truD x.d) fun t => some (t, ρ1)) _ = some fl from ev1)
    obtain ⟨o, ρ2, e2, e1⟩ := bd_inv e1
    obtain ⟨c', e3, e1⟩ := b1_inv e1
    cases e1
    refine ht ρi o _ c e2 e3 σ1 H1 Hf1 αi τ R1 w1 _ fun H2 Hf2 α2 s2 R2 w2 => ?_
    cases c with
    | true =>
      obtain ⟨f, e4, ev1⟩ := b1_inv (show b1 (evSs C b ρ1) _ = some fl from ev1)
      refine iteT ⟨fun σ' H' => ∃ (ρi : Env) (Hf' : Hp) (αi : An), Same Hf Hf' ∧ Rel σ' ρi αi ∧ WR X.K Hf' H' (tr αi ++ τ) ∧ Kp keep σ σ' ∧ whlL (fun ρ => bd (evE C t ρ) fun x ρ1 => b1 (truD x.d) fun t => some (t, ρ1)) (fun ρ => evSs C b ρ) m ρi = some fl, fun σ' H' h => ⟨m, Nat.lt_succ_self m, h⟩, ?_⟩
      refine hb ρ1 f e4 σ1 H2 Hf2 α2 τ R2 w2 _ ?_
      cases f with
      | nx ρ3 => exact fun σ' H' Hf' α' s' R' w' k' => ⟨ρ3, Hf', α', (s1.trans s2).trans s', R', w', k1.trans k', ev1⟩
      | ct ρ3 => exact fun σ' H' Hf' α' s' R' w' k' => ⟨ρ3, Hf', α', (s1.trans s2).trans s', R', w', k1.trans k', ev1⟩
      | bk ρ3 =>
        cases ev1
        exact fun σ' H' Hf' α' s' R' w' k' => kk σ' H' Hf' α' ((s1.trans s2).trans s') R' w' (k1.trans k')
      | rt o ρ3 =>
        cases ev1
        exact fun σ' H' Hf' α' x s' R' e' w' k' => kk σ' H' Hf' α' x ((s1.trans s2).trans s') R' e' w' (k1.trans k')
    | false =>
      cases ev1
      exact iteF (kk σ1 H2 Hf2 α2 (s1.trans s2) R2 w2 k1)
theorem ss_for (hc : Cn X G C n sc N) {t : T} {it : It} {b : Ss} {tg ei : Expr} {sb : List Stmt} {pos : Pos} (hi : SI X C it tg ei) (hg : SG X t tg) (hb : SSs X C keep b sb) (hk : kindOk ei = true) (hkp : ∀ i ∈ keep, i ∉ t.slots) : SS X C keep (.for_ t it b) (.For tg ei sb [] pos) := by
  intro ρ fl hev σ H Hf α τ R w D kk
  obtain ⟨ds, ρ1, e1, hev⟩ := bd_inv hev
  refine ps_ws (ps_for (never_cn hc) hc.calm wi_pi wg_pg wss_pss (set_ok hk _)) ?_
  refine hi ρ ds ρ1 e1 σ H Hf α τ R w _ fun H1 Hf1 α1 J s1 R1 w1 wk => ?_
  refine ⟨fun i m σ' H' => m = ds.length - i ∧ i ≤ ds.length ∧ ∃ (ρi : Env) (Hf' : Hp) (αi : An), Same Hf1 Hf' ∧ Rel σ' ρi αi ∧ WR X.K Hf' H' (tr αi ++ τ) ∧ Kp keep σ σ' ∧ forL (fun d ρ' => b1 (bindT t d ρ') fun ρa => evSs C b ρa) (ds.drop i) ρi = some fl,
    ⟨ds.length, rfl, Nat.zero_le _, ρ1, Hf1, α1, Same.refl _, R1, w1, Kp.refl, hev⟩, ?_⟩
  rintro i m σ1 H2 ⟨rfl, hle, ρi, Hf2, αi, s2, R2, w2, k1, ev1⟩
  by_cases hlt : i < ds.length
  · refine .inr ⟨wk.goes i H2 hlt (s2.trans w2.sub), fun σ' H' => ∃ (ρi : Env) (Hf' : Hp) (αi : An), Same Hf1 Hf' ∧ Rel σ' ρi αi ∧ WR X.K Hf' H' (tr αi ++ τ) ∧ Kp keep σ σ' ∧ forL (fun d ρ' => b1 (bindT t d ρ') fun ρa => evSs C b ρa) (ds.drop (i + 1)) ρi = some fl, fun σ' H' h => ⟨ds.length - (i + 1), by omega, rfl, hlt, h⟩, fun x H' hy => ?_⟩
    obtain ⟨d, Hf3, hd, s3, w3, dx⟩ := yd_take (wk.yields i H2 x H' hlt (s2.trans w2.sub) hy) s2 w2
    rw [drop_cons hd] at ev1
    obtain ⟨f, e2, ev1⟩ := b1_inv (show b1 (b1 (bindT t d ρi) fun ρa => evSs C b ρa) _ = some fl from ev1)
    obtain ⟨ρa, e3, e2⟩ := b1_inv e2
    refine hg d ρi ρa e3 σ1 H' Hf3 αi τ x R2 w3 dx _ fun σ2 α2 R3 w4 k2 => ?_
    have k3 : Kp keep σ σ2 := fun j hj => (k2 j (hkp j hj)).trans (k1 j hj)
    refine hb ρa f e2 σ2 H' Hf3 α2 τ R3 w4 _ ?_
    cases f with
    | nx ρ3 => exact fun σ' H' Hf' α' s' R' w' k' => ⟨ρ3, Hf', α', (s2.trans s3).trans s', R', w', k3.trans k', ev1⟩
    | ct ρ3 => exact fun σ' H' Hf' α' s' R' w' k' => ⟨ρ3, Hf', α', (s2.trans s3).trans s', R', w', k3.trans k', ev1⟩
    | bk ρ3 =>
      cases ev1
      exact fun σ' H' Hf' α' s' R' w' k' => kk σ' H' Hf' α' (((s1.trans s2).trans s3).trans s') R' w' (k3.trans k')
    | rt o ρ3 =>
      cases ev1
      exact fun σ' H' Hf' α' x s' R' e' w' k' => kk σ' H' Hf' α' x (((s1.trans s2).trans s3).trans s') R' e' w' (k3.trans k')
  · have e : i = ds.length := by omega
    subst e
    rw [List.drop_length] at ev1
    cases ev1
    exact .inl ⟨wk.stops H2 (s2.trans w2.sub), kk σ1 H2 Hf2 αi (s1.trans s2) R2 w2 k1⟩
theorem sss_nil : SSs X C keep .nil [] := by
  intro ρ fl hev σ H Hf α τ R w D kk
  cases hev
  exact pss_wss pss_nil (kk σ _ Hf α (Same.refl _) R w Kp.refl)
theorem sss_cons {s : S} {ss : Ss} {st : Stmt} {sts : List Stmt} (h1 : SS X C keep s st) (h2 : SSs X C keep ss sts) : SSs X C keep (.cons s ss) (st :: sts) := by
  intro ρ fl hev σ H Hf α τ R w D kk
  obtain ⟨f, e1, hev⟩ := b1_inv hev
  refine pss_wss (pss_cons ws_ps wss_pss) ?_
  refine h1 ρ f e1 σ H Hf α τ R w _ ?_
  cases f with
  | nx ρ1 => exact fun σ' H' Hf' α' s' R' w' k' => h2 ρ1 fl hev σ' H' Hf' α' τ R' w' D (kk.mono s' k')
  | bk ρ1 => cases hev; exact kk
  | ct ρ1 => cases hev; exact kk
  | rt o ρ1 => cases hev; exact kk
theorem sss_frz {i : Nat} {ss : Ss} {sts : List Stmt} (h2 : SSs X C keep ss sts) : SSs X C keep (.cons (.frz i) ss) sts := by
  intro ρ fl hev σ H Hf α τ R w D kk
  obtain ⟨f, e1, hev⟩ := b1_inv hev
  obtain ⟨o, e2, e1⟩ := b1_inv e1
  cases e1
  obtain ⟨t, g1, g2, g3⟩ := R.slot (get_inv e2)
  obtain ⟨Hf1, s1, w1⟩ := (w.takeS g1).freeze
  have hlen : i < α.length := (List.getElem?_eq_some_iff.mp g1).1
  have R1 := R.put (y := .fz t.v t.o.d) g1 rfl
  have eq1 : (OA.fz t.v t.o.d).o = .fz o.d := by
    show OV.fz t.o.d = _
    rw [g2]
  rw [eq1] at R1
  exact h2 _ fl hev σ H Hf1 _ τ R1 (w1.putS hlen) D (kk.mono s1 Kp.refl)
end
end PF

/-! PF: borrowed slots, constants of the top, f-strings, ranges as lists, extend, calls with a new list. -/
namespace PF
open PySem PySem.Spec PyProof.Rows L2
/-! ### borrowing -/
section
variable {K : PySem.W.Frag} {Hf H Hf2 H2 : Hp}
mutual
/-- what a tree owns are lists -/
theorem OA.as_lst : ∀ {x : OA}, x.ok K Hf H → ∀ a ∈ x.as, ∃ vs, H a = some (.lst vs)
  | .fz _ _, _, _, ha => absurd ha List.not_mem_nil
  | .ol b xs, h, a, ha => by
    rcases List.mem_cons.mp ha with e | e
    · rw [e]; exact ⟨_, h.1⟩
    · exact OA.ass_lst h.2.2 a e
  | .ot b xs, h, a, ha => OA.ass_lst h.2 a ha
theorem OA.ass_lst : ∀ {xs : List OA}, OA.oks K Hf H xs → ∀ a ∈ OA.ass xs, ∃ vs, H a = some (.lst vs)
  | [], _, _, ha => absurd ha List.not_mem_nil
  | x :: xs, h, a, ha => by
    rcases List.mem_append.mp ha with e | e
    · exact OA.as_lst h.1 a e
    · exact OA.ass_lst h.2 a e
end
mutual
/-- a tree that holds at two times: what it owns is alike -/
theorem OA.alike : ∀ {x : OA}, x.ok K Hf H → x.ok K Hf2 H2 → ∀ a ∈ x.as, H2 a = H a
  | .fz _ _, _, _, _, ha => absurd ha List.not_mem_nil
  | .ol b xs, h, k, a, ha => by
    rcases List.mem_cons.mp ha with e | e
    · rw [e, h.1, k.1]
    · exact OA.alikes h.2.2 k.2.2 a e
  | .ot b xs, h, k, a, ha => OA.alikes h.2 k.2 a ha
theorem OA.alikes : ∀ {xs : List OA}, OA.oks K Hf H xs → OA.oks K Hf2 H2 xs → ∀ a ∈ OA.ass xs, H2 a = H a
  | [], _, _, _, ha => absurd ha List.not_mem_nil
  | x :: xs, h, k, a, ha => by
    rcases List.mem_append.mp ha with e | e
    · exact OA.alike h.1 k.1 a e
    · exact OA.alikes h.2 k.2 a e
end
open Classical in
/-- without these -/
noncomputable def offH (H : Hp) (as : List Addr) : Hp := fun a => if a ∈ as then none else H a
theorem offH_in {as : List Addr} {a : Addr} (h : a ∈ as) : offH H as a = none := by unfold offH; rw [if_pos h]
theorem offH_out {as : List Addr} {a : Addr} (h : a ∉ as) : offH H as a = H a := by unfold offH; rw [if_neg h]
theorem off_tup {as : List Addr} (hl : ∀ a ∈ as, ∃ vs, H a = some (.lst vs)) {a : Addr} {xs : List V} (h : SqT K H a xs) : SqT K (offH H as) a xs := by
  have key : ∀ o, H a = some o → (∀ vs, o ≠ .lst vs) → offH H as a = some o := fun o e n => by
    rw [offH_out]
    · exact e
    · intro ha
      obtain ⟨vs, e2⟩ := hl a ha
      rw [e] at e2
      exact n vs (Option.some.inj e2)
  rcases h with (h | ⟨o, h⟩) | h
  · exact .inl (.inl (key _ h (fun vs z => by cases z)))
  · exact .inl (.inr ⟨o, key _ h (fun vs z => by cases z)⟩)
  · exact .inr h
mutual
theorem dp_imm {as : List Addr} (hl : ∀ a ∈ as, ∃ vs, H a = some (.lst vs)) : ∀ {v : V} {d : D}, Dp K H v d → immD d = true → Dp K (offH H as) v d
  | _, _, .non, _ => .non
  | _, _, .bl b, _ => .bl b
  | _, _, .int i, _ => .int i
  | _, _, .str x, _ => .str x
  | _, _, .lst h a, e => absurd e Bool.false_ne_true
  | _, _, .tup h a, e => .tup (off_tup hl h) (dps_imm hl a e)
theorem dps_imm {as : List Addr} (hl : ∀ a ∈ as, ∃ vs, H a = some (.lst vs)) : ∀ {vs : List V} {ds : List D}, DpAll K H vs ds → immDs ds = true → DpAll K (offH H as) vs ds
  | _, _, .nil, _ => .nil
  | _, _, .cons h a, e => .cons (dp_imm hl h (Bool.and_eq_true_iff.mp e).1) (dps_imm hl a (Bool.and_eq_true_iff.mp e).2)
end
mutual
theorem OA.ok_imm {as : List Addr} (hl : ∀ a ∈ as, ∃ vs, Hf a = some (.lst vs)) : ∀ {x : OA}, x.ok K Hf H → immO x.o = true → x.ok K (offH Hf as) H
  | .fz v d, h, e => dp_imm hl h e
  | .ol a xs, h, e => by
    refine ⟨h.1, ?_, OA.oks_imm hl h.2.2 e⟩
    by_cases ha : a ∈ as
    · exact offH_in ha
    · rw [offH_out ha]; exact h.2.1
  | .ot a xs, h, e => by
    refine ⟨?_, OA.oks_imm hl h.2 e⟩
    rw [offH_out]
    · exact h.1
    · intro ha
      obtain ⟨vs, e2⟩ := hl a ha
      rw [h.1] at e2
      cases e2
theorem OA.oks_imm {as : List Addr} (hl : ∀ a ∈ as, ∃ vs, Hf a = some (.lst vs)) : ∀ {xs : List OA}, OA.oks K Hf H xs → immOs (OA.os xs) = true → OA.oks K (offH Hf as) H xs
  | [], _, _ => trivial
  | x :: xs, h, e => ⟨OA.ok_imm hl h.1 (Bool.and_eq_true_iff.mp e).1, OA.oks_imm hl h.2 (Bool.and_eq_true_iff.mp e).2⟩
end
end
def frA (α : An) : An := α.map (Option.map fun x => OA.fz x.v x.o.d)
theorem tr_frA (α : An) : tr (frA α) = (tr α).map fun x => OA.fz x.v x.o.d := by
  unfold tr frA
  induction α with
  | nil => rfl
  | cons a α ih =>
    cases a with
    | none => exact ih
    | some x =>
      show _ :: List.filterMap id (List.map _ α) = _ :: List.map _ (List.filterMap id α)
      rw [ih]
theorem ass_fz : ∀ xs : List OA, OA.ass (xs.map fun x => OA.fz x.v x.o.d) = []
  | [] => rfl
  | x :: xs => by
    show [] ++ OA.ass (xs.map fun x => OA.fz x.v x.o.d) = []
    rw [ass_fz xs]; rfl
theorem frA_rel {σ : L2.St} {ρ : Env} {α : An} (R : Rel σ ρ α) : Rel σ (frE ρ) (frA α) := by
  refine ⟨?_, by unfold frA; rw [List.length_map]; exact R.ln, fun i x h => ?_⟩
  · rw [← R.er]
    unfold erase frA frE
    rw [List.map_map, List.map_map]
    congr 1
    funext o
    cases o <;> rfl
  · unfold frA at h
    rw [List.getElem?_map] at h
    cases e : α[i]? with
    | none => rw [e] at h; cases h
    | some o =>
      rw [e] at h
      cases o with
      | none => cases h
      | some y =>
        have ey : OA.fz y.v y.o.d = x := by simpa using h
        rw [← ey]
        exact R.at_ i y e
section
variable {K : PySem.W.Frag} {Hf H Hf2 H2 : Hp} {α α2 : An} {τ : List OA}
theorem WR.borrow (w : WR K Hf H (tr α ++ τ)) : Same Hf (frzH Hf H (OA.ass (tr α))) ∧ WR K (frzH Hf H (OA.ass (tr α))) H (tr (frA α) ++ τ) := by
  have ok := OA.oks_app.mp w.ok
  have n : ∀ a ∈ OA.ass (tr α), Hf a = none := fun a ha => (OA.oks_some ok.1 a ha).2
  have nd := w.nd
  rw [OA.ass_app] at nd
  have dj : ∀ a ∈ OA.ass τ, a ∉ OA.ass (tr α) := fun a ha hx => (List.nodup_append.mp nd).2.2 a hx a ha rfl
  refine ⟨frzH_same n, frzH_sub w.sub, OA.oks_app.mpr ⟨?_, ?_⟩, ?_⟩
  · rw [tr_frA]
    refine OA.oks_all.mpr fun y hy => ?_
    obtain ⟨x, hx, rfl⟩ := List.mem_map.mp hy
    exact OA.frz (frzH_same n) (OA.oks_all.mp ok.1 x hx) fun a ha => frzH_in (OA.mem_ass.mpr ⟨x, hx, ha⟩)
  · exact OA.oks_stay (frzH_same n) ok.2 fun a ha => ⟨rfl, by rw [frzH_out (dj a ha)]; exact (OA.oks_some ok.2 a ha).2⟩
  · rw [tr_frA, OA.ass_app, ass_fz]
    exact (List.nodup_append.mp nd).2.1
/-- .. and given back -/
theorem WR.giveBack {ys : List OA} (w : WR K Hf H (tr α ++ τ)) (s : Same (frzH Hf H (OA.ass (tr α))) Hf2) (w2 : WR K Hf2 H2 (ys ++ (tr α2 ++ τ))) (hi : immOs (OA.os ys) = true) :
    Same Hf (offH Hf2 (OA.ass (tr α))) ∧ WR K (offH Hf2 (OA.ass (tr α))) H2 (ys ++ (tr α ++ τ)) := by
  have ok := OA.oks_app.mp w.ok
  have ok2 := OA.oks_app.mp w2.ok
  have ok3 := OA.oks_app.mp ok2.2
  have n : ∀ a ∈ OA.ass (tr α), Hf a = none := fun a ha => (OA.oks_some ok.1 a ha).2
  have nd := w.nd
  rw [OA.ass_app] at nd
  have dj : ∀ a ∈ OA.ass τ, a ∉ OA.ass (tr α) := fun a ha hx => (List.nodup_append.mp nd).2.2 a hx a ha rfl
  have fr : ∀ a ∈ OA.ass (tr α), ∃ vs, H a = some (.lst vs) ∧ Hf2 a = some (.lst vs) := fun a ha => by
    obtain ⟨vs, e⟩ := OA.ass_lst ok.1 a ha
    exact ⟨vs, e, s a _ (by rw [frzH_in ha]; exact e)⟩
  have sm : Same Hf (offH Hf2 (OA.ass (tr α))) := fun a o e => by
    have ha : a ∉ OA.ass (tr α) := fun z => by rw [n a z] at e; cases e
    rw [offH_out ha]
    exact s a o (by rw [frzH_out ha]; exact e)
  refine ⟨sm, ?_, ?_, ?_⟩
  · intro a o e
    by_cases ha : a ∈ OA.ass (tr α)
    · rw [offH_in ha] at e; cases e
    · rw [offH_out ha] at e; exact w2.sub a o e
  · refine OA.oks_app.mpr ⟨OA.oks_imm (fun a ha => ?_) ok2.1 hi, OA.oks_stay sm w.ok fun a ha => ?_⟩
    · obtain ⟨vs, _, e⟩ := fr a ha
      exact ⟨vs, e⟩
    · rw [OA.ass_app] at ha
      rcases List.mem_append.mp ha with h | h
      · obtain ⟨vs, e1, e2⟩ := fr a h
        exact ⟨by rw [e1, w2.sub a _ e2], offH_in h⟩
      · exact ⟨OA.alikes ok.2 ok3.2 a h, by rw [offH_out (dj a h)]; exact (OA.oks_some ok3.2 a h).2⟩
  · have nd2 := w2.nd
    rw [OA.ass_app] at nd2 ⊢
    rw [OA.ass_app] at nd2
    obtain ⟨a1, a2, a3⟩ := List.nodup_append.mp nd2
    refine List.nodup_append.mpr ⟨a1, w.nd, fun a ha b hb e => ?_⟩
    subst e
    rw [OA.ass_app] at hb
    rcases List.mem_append.mp hb with h | h
    · obtain ⟨vs, _, e2⟩ := fr a h
      rw [(OA.oks_some ok2.1 a ha).2] at e2
      cases e2
    · exact a3 a ha a (List.mem_append_right _ h) rfl
end
section
variable {X : Cx} {G : Prg} {C : Ctx} {n : Nat} {sc : Scope} {N : List Str} {keep : List Nat}
theorem se_bor {a : E} {ea : Expr} (ha : SE X C a ea) : SE X C (.bor a) ea := by
  intro ρ r ρ' he σ H Hf α τ R w Q q
  obtain ⟨x, ρ1, e1, he⟩ := bd_inv he
  obtain ⟨hz, he⟩ := gd_inv he
  cases he
  obtain ⟨s1, w1⟩ := w.borrow
  refine ha _ r ρ1 e1 σ H _ _ τ (frA_rel R) w1 Q fun H2 Hf2 α2 y s2 R2 ey w2 => ?_
  obtain ⟨s3, w3⟩ := w.giveBack (ys := [y]) s2 w2 (by
    show (immO y.o && true) = true
    rw [ey, hz]; rfl)
  exact q H2 _ α y s3 R ey w3
theorem st_bor {a : E} {ea : Expr} (ha : ST X C a ea) : ST X C (.bor a) ea := by
  intro ρ r ρ' b he ht σ H Hf α τ R w Q q
  obtain ⟨x, ρ1, e1, he⟩ := bd_inv he
  obtain ⟨hz, he⟩ := gd_inv he
  cases he
  obtain ⟨s1, w1⟩ := w.borrow
  refine ha _ r ρ1 b e1 ht σ H _ _ τ (frA_rel R) w1 Q fun H2 Hf2 α2 s2 R2 w2 => ?_
  obtain ⟨s3, w3⟩ := w.giveBack (ys := []) s2 w2 rfl
  exact q H2 _ α s3 R w3
/-! ### constants of the top -/
theorem se_gc (hc : Cn X G C n sc N) {c : Cst} {x : Str} {pos : Pos} (hx : (x, c) ∈ G.cs) (hg : glC sc x = true) (ho : okNm x = true) : SE X C (.gc c) (.Name x pos) := by
  intro ρ r ρ' he σ H Hf α τ R w Q q
  cases he
  obtain ⟨u, v, m1, m2, m3⟩ := hc.pr.cst x c hx
  exact pe_we (pe_glob (hc.gl hg) m1 m2 (okNm_inv ho).1) (q H Hf α (.fz v c.d) (Same.refl _) R rfl (w.addF (m3 Hf)))
/-! ### f-strings -/
theorem se_fm {a : E} {ea : Expr} {pos : Pos} (ha : SE X C a ea) : SE X C (.fm a) (.FormattedValue ea (-1) none pos) := by
  intro ρ r ρ' he σ H Hf α τ R w Q q
  obtain ⟨x, ρ1, e1, he⟩ := bd_inv he
  obtain ⟨z, e2, he⟩ := b1_inv he
  cases he
  refine pe_we (pe_fmt we_pe) ?_
  refine one ha e1 R w _ fun H' Hf' α' u s1 R1 w1 du => ?_
  generalize x.d = dd at du e2
  cases dd with
  | str y =>
    obtain ⟨h1, h2⟩ := gd_inv (show gd (decide (y.length ≤ SZ)) (some y) = some z from e2)
    cases h2
    exact .inl ⟨_, dp_str du, of_decide_eq_true h1, giv_f w1 (.str _) (giv_q s1 R1 q)⟩
  | int i =>
    obtain ⟨h1, h2⟩ := gd_inv (show gd (decide (i.natAbs.log2 < 1920)) _ = some z from e2)
    cases h2
    exact .inr ⟨i, dp_int du, of_decide_eq_true h1, giv_f w1 (.str _) (giv_q s1 R1 q)⟩
  | _ => cases e2
theorem pj_we : ∀ ees : List Expr, PJ X ees (ees.map (WE X))
  | [] => .nil
  | e :: es => .cons we_pe (pj_we es)
def SJ (X : Cx) (C : Ctx) (ir : Es) (es : List Expr) : Prop := ∀ (ρ : Env) (r : List OV) (ρ' : Env) (acc z : Str), evEs C ir ρ = some (r, ρ') → catD acc (OV.ds r) = some z → ∀ (σ : L2.St) (H Hf : Hp) (α : An) (τ : List OA), Rel σ ρ α → WR X.K Hf H (tr α ++ τ) → ∀ Q : Str → Hp → Prop,
  (∀ (H' Hf' : Hp) (α' : An), Same Hf Hf' → Rel σ ρ' α' → WR X.K Hf' H' (tr α' ++ τ) → Q z H') → tJs (es.map (WE X)) acc σ H Q
theorem sj_nil : SJ X C .nil [] := by
  intro ρ r ρ' acc z he hz σ H Hf α τ R w Q q
  cases he
  cases hz
  exact q H Hf α (Same.refl _) R w
theorem sj_cons {e : E} {es : Es} {ee : Expr} {ees : List Expr} (ha : SE X C e ee) (hs : SJ X C es ees) : SJ X C (.cons e es) (ee :: ees) := by
  intro ρ r ρ' acc z he hz σ H Hf α τ R w Q q
  obtain ⟨x, ρ1, e1, he⟩ := bd_inv he
  obtain ⟨xs, ρ2, e2, he⟩ := bd_inv he
  cases he
  have hz : catD acc (x.d :: OV.ds xs) = some z := hz
  show WE X ee σ H _
  refine one ha e1 R w _ fun H' Hf' α' u s1 R1 w1 du => ?_
  generalize x.d = dd at du hz
  cases dd with
  | str y =>
    obtain ⟨h1, h2⟩ := gd_inv (show gd (decide ((acc ++ y).length ≤ SZ)) _ = some z from hz)
    exact ⟨y, dp_str du, of_decide_eq_true h1, hs ρ1 xs _ _ _ e2 h2 σ H' Hf' α' τ R1 w1 Q fun H2 Hf2 α2 s2 R2 w2 => q H2 Hf2 α2 (s1.trans s2) R2 w2⟩
  | _ => cases hz
theorem se_js {es : Es} {v1 v2 : Expr} {ees : List Expr} {pos : Pos} (hs : SJ X C es (v1 :: v2 :: ees)) : SE X C (.js es) (.JoinedStr (v1 :: v2 :: ees) pos) := by
  intro ρ r ρ' he σ H Hf α τ R w Q q
  obtain ⟨xs, ρ1, e1, he⟩ := bd_inv he
  obtain ⟨z, e2, he⟩ := b1_inv he
  cases he
  refine pe_we (pe_joined (pj_we _)) ?_
  exact hs ρ xs _ _ z e1 e2 σ H Hf α τ R w _ fun H2 Hf2 α2 s2 R2 w2 => q H2 Hf2 α2 (.fz (.str z) (.str z)) s2 R2 rfl (w2.addF (.str z))
/-! ### list(range(a, b)) -/
theorem rgV_dp {K : PySem.W.Frag} {H : Hp} (lo : Int) : ∀ l : List Nat, DpAll K H (l.map fun i => V.int (lo + (i : Nat))) (l.map fun i => PyData.int (lo + (i : Nat)))
  | [] => .nil
  | i :: l => .cons (.int _) (rgV_dp lo l)
theorem se_lrng (hc : Cn X G C n sc N) {a b : E} {ea eb : Expr} {p p2 pos pos2 : Pos} (ha : SE X C a ea) (hb : SE X C b eb) (hk : kindOk ea = true) (hk2 : kindOk eb = true) (hg : glC sc "list" = true) (hg2 : glC sc "range" = true) :
    SE X C (.lrng a b) (.Call (.Name "list" p) [.Call (.Name "range" p2) [ea, eb] [] pos2] [] pos) := by
  intro ρ r ρ' he σ H Hf α τ R w Q q
  obtain ⟨x, ρ1, e1, he⟩ := bd_inv he
  obtain ⟨y, ρ2, e2, he⟩ := bd_inv he
  cases hx : x.d with
  | int i =>
    cases hy : y.d with
    | int j =>
      rw [hx, hy] at he
      obtain ⟨h1, he⟩ := gd_inv (show gd (rgOk i j) _ = some (r, ρ') from he)
      cases he
      refine pe_we (pe_listRg hc.calm (hc.gl hg) (hc.pr.free _ (blt_in .list)) (prg_2 (hc.gl hg2) (hc.pr.free _ blts_range) we_pe we_pe (star_ok hk _ _) (star_ok hk2 _ _) (by rw [star_ok hk2]; rfl)) rfl) ?_
      refine two ha hb e1 e2 R w _ fun H' Hf' α' u v s1 R1 w1 du dv => ?_
      rw [hx] at du
      rw [hy] at dv
      have h2 : RgOk i j := by
        have h3 := of_decide_eq_true (show decide (-(2 ^ 62) ≤ i ∧ i < 2 ^ 62 ∧ -(2 ^ 62) ≤ j ∧ j < 2 ^ 62 ∧ (j - i).toNat ≤ 2 ^ 24) = true from h1)
        exact h3
      exact ⟨i, j, dp_int du, dp_int dv, h2, fun p hp => giv_L w1 hp (rgV_dp i _) (giv_q s1 R1 q)⟩
    | _ => rw [hx, hy] at he; cases he
  | _ => rw [hx] at he; cases he
/-! ### list(zip(a, b)) -/
theorem grow_wr {K : PySem.W.Frag} {H : Hp} {T : List OA} {ps : List (V × V)} {ts : List V} {H' : Hp} (g : Grow H ps ts H') : ∀ {Hf : Hp}, WR K Hf H T → ∀ {ds : List (D × D)}, (∀ (i : Nat) (p : V × V), ps[i]? = some p → ∃ d : D × D, ds[i]? = some d ∧ Dp K Hf p.1 d.1 ∧ Dp K Hf p.2 d.2) → ds.length = ps.length →
    ∃ Hf', Same Hf Hf' ∧ WR K Hf' H' T ∧ DpAll K Hf' ts (ds.map fun d => PyData.tuple [d.1, d.2]) := by
  induction g with
  | nil =>
    intro Hf w ds _ hl
    cases ds with
    | nil => exact ⟨Hf, Same.refl _, w, .nil⟩
    | cons _ _ => cases hl
  | @snoc ps ts H' g T0 x y n ih =>
    intro Hf w ds hd hl
    rw [List.length_append, List.length_singleton] at hl
    obtain ⟨ds0, d, rfl⟩ : ∃ ds0 d, ds = ds0 ++ [d] := by
      rcases List.eq_nil_or_concat ds with e | ⟨l, d, e⟩
      · rw [e] at hl; cases hl
      · exact ⟨l, d, by rw [e]; exact List.concat_eq_append ..⟩
    rw [List.length_append, List.length_singleton] at hl
    have hl : ds0.length = ps.length := by omega
    obtain ⟨Hf1, s1, w1, a1⟩ := ih w (ds := ds0) (fun i p e => by
      have lt : i < ps.length := (List.getElem?_eq_some_iff.mp e).1
      obtain ⟨q, h1, h2⟩ := hd i p (by rw [List.getElem?_append_left lt]; exact e)
      rw [List.getElem?_append_left (by omega)] at h1
      exact ⟨q, h1, h2⟩) hl
    obtain ⟨q, h1, h2, h3⟩ := hd ps.length (x, y) (by rw [List.getElem?_append_right (Nat.le_refl _), Nat.sub_self]; rfl)
    rw [← hl, List.getElem?_append_right (Nat.le_refl _), Nat.sub_self] at h1
    have e : d = q := by simpa using h1
    subst e
    obtain ⟨s2, w2⟩ := w1.newT n (vs := [x, y]) (ds := [d.1, d.2]) (.cons (dp_same s1 h2) (.cons (dp_same s1 h3) .nil))
    refine ⟨_, s1.trans s2, w2.tail, ?_⟩
    rw [List.map_append]
    have key : ∀ {vs : List V} {es : List D}, DpAll K (upd Hf1 T0 (.tup [x, y])) vs es → DpAll K (upd Hf1 T0 (.tup [x, y])) (vs ++ [.ref T0]) (es ++ [.tuple [d.1, d.2]]) := by
      intro vs es h
      induction es generalizing vs with
      | nil => cases h; exact .cons w2.ok.1 .nil
      | cons e es ih => cases h with
        | cons h1 h2 => exact .cons h1 (ih h2)
    exact key (dps_same s2 a1)
theorem zip_dp {K : PySem.W.Frag} {H : Hp} {xs ys : List V} {ds es : List D} (h1 : DpAll K H xs ds) (h2 : DpAll K H ys es) : (∀ (i : Nat) (p : V × V), (xs.zip ys)[i]? = some p → ∃ d : D × D, (ds.zip es)[i]? = some d ∧ Dp K H p.1 d.1 ∧ Dp K H p.2 d.2) ∧ (ds.zip es).length = (xs.zip ys).length ∧ (ds.zip es).map (fun d => PyData.tuple [d.1, d.2]) = zipD ds es := by
  refine ⟨fun i p e => ?_, by rw [List.length_zip, List.length_zip, dpa_len h1, dpa_len h2], ?_⟩
  · obtain ⟨e1, e2⟩ := List.getElem?_zip_eq_some.mp e
    obtain ⟨d, g1, g2⟩ := dpa_at h1 e1
    obtain ⟨d', g1', g2'⟩ := dpa_at h2 e2
    exact ⟨(d, d'), List.getElem?_zip_eq_some.mpr ⟨g1, g1'⟩, g2, g2'⟩
  · unfold zipD
    rw [List.zip, List.map_zipWith]
theorem se_lz (hc : Cn X G C n sc N) {a b : E} {ea eb : Expr} {p p2 pos pos2 : Pos} (ha : SE X C a ea) (hb : SE X C b eb) (hk : kindOk ea = true) (hk2 : kindOk eb = true) (hg : glC sc "list" = true) (hg2 : glC sc "zip" = true) :
    SE X C (.lz a b) (.Call (.Name "list" p) [.Call (.Name "zip" p2) [ea, eb] [] pos2] [] pos) := by
  intro ρ r ρ' he σ H Hf α τ R w Q q
  obtain ⟨x, ρ1, e1, he⟩ := bd_inv he
  obtain ⟨y, ρ2, e2, he⟩ := bd_inv he
  obtain ⟨o, e3, he⟩ := b1_inv he
  cases he
  obtain ⟨zs, e4, e3⟩ := b1_inv e3
  obtain ⟨h1, e3⟩ := gd_inv e3
  cases e3
  obtain ⟨k1, ds, e5, e4⟩ := bd_inv e4
  obtain ⟨k2, es, e6, e4⟩ := bd_inv e4
  cases e4
  have hz : (backTo pos2 (starEach [eb] X.env)).any (·.1) = false := stars_any (by show (kindOk eb && true) = true; rw [hk2]; rfl)
  refine pe_we (LZ.pe (b1 := k1) (b2 := k2) hc.calm (hc.gl hg) (hc.pr.free _ (blt_in .list)) (hc.gl hg2) (hc.pr.free _ blts_zip) (pa_cons we_pe (pa_cons we_pe pa_nil (star_ok hk2 _ _)) (star_ok hk _ _)) (star_ok hk _ _) hz) ?_
  refine two ha hb e1 e2 R w _ fun H' Hf' α' u v s1 R1 w1 du dv => ?_
  obtain ⟨p, us, rfl, hs, da⟩ := dp_seqM du e5
  obtain ⟨p2, vs, rfl, hs2, da2⟩ := dp_seqM dv e6
  obtain ⟨z1, z2, z3⟩ := zip_dp da da2
  refine ⟨p, p2, us, vs, rfl, sqM_same w1.sub hs, sqM_same w1.sub hs2, ?_, fun S ts H2 g nS => ?_⟩
  · have := of_decide_eq_true h1
    rw [← z3, List.length_map, z2] at this
    exact this
  · obtain ⟨Hf2, s2, w2, a2⟩ := grow_wr g w1 z1 z2
    rw [z3] at a2
    exact giv_L w2 nS a2 (giv_q (s1.trans s2) R1 q)
/-! ### list(range(a)) -/
theorem se_lrng1 (hc : Cn X G C n sc N) {b : E} {eb : Expr} {p p2 pos pos2 : Pos} (hb : SE X C b eb) (hk2 : kindOk eb = true) (hg : glC sc "list" = true) (hg2 : glC sc "range" = true) :
    SE X C (.lrng (.c (.int 0)) b) (.Call (.Name "list" p) [.Call (.Name "range" p2) [eb] [] pos2] [] pos) := by
  intro ρ r ρ' he σ H Hf α τ R w Q q
  obtain ⟨x, ρ1, e1, he⟩ := bd_inv he
  cases e1
  obtain ⟨y, ρ2, e2, he⟩ := bd_inv he
  cases hy : y.d with
  | int j =>
    rw [hy] at he
    obtain ⟨h1, he⟩ := gd_inv (show gd (rgOk 0 j) _ = some (r, ρ') from he)
    cases he
    refine pe_we (pe_listRg hc.calm (hc.gl hg) (hc.pr.free _ (blt_in .list)) (prg_1 (hc.gl hg2) (hc.pr.free _ blts_range) we_pe (star_ok hk2 _ _)) rfl) ?_
    refine one hb e2 R w _ fun H' Hf' α' u s1 R1 w1 du => ?_
    rw [hy] at du
    have h2 : RgOk 0 j := by
      have h3 := of_decide_eq_true (show decide (-(2 ^ 62) ≤ (0 : Int) ∧ (0 : Int) < 2 ^ 62 ∧ -(2 ^ 62) ≤ j ∧ j < 2 ^ 62 ∧ (j - 0).toNat ≤ 2 ^ 24) = true from h1)
      exact h3
    exact ⟨j, dp_int du, h2, fun p hp => giv_L w1 hp (rgV_dp 0 _) (giv_q s1 R1 q)⟩
  | _ => rw [hy] at he; cases he
/-! ### x is True -/
theorem isb_inv {C : Ctx} {m b : Bool} {a : E} {ρ ρ' : Env} {r : OV} (he : evE C (.isb m b a) ρ = some (r, ρ')) : ∃ x c, evE C a ρ = some (x, ρ') ∧ x.d = .bool c ∧ r = .fz (.bool (if m then !decide (c = b) else decide (c = b))) := by
  obtain ⟨x, ρ1, e1, he⟩ := bd_inv he
  cases hx : x.d with
  | bool c =>
    rw [hx] at he
    cases he
    exact ⟨x, c, e1, hx, rfl⟩
  | _ => rw [hx] at he; cases he
theorem se_isb {m b : Bool} {a : E} {ea : Expr} {pos pos' : Pos} {j : Nat} (ha : SE X C a ea) : SE X C (.isb m b a) (.Compare ea [if m then .IsNot else .Is] [.Constant (.bool b) j pos'] pos) := by
  intro ρ r ρ' he σ H Hf α τ R w Q q
  obtain ⟨x, c, e1, hx, rfl⟩ := isb_inv he
  cases m with
  | true =>
    refine pe_we (pe_cmpR op_notBl we_pe pe_bl rfl) ?_
    refine one ha e1 R w _ fun H' Hf' α' u s1 R1 w1 du => ?_
    rw [hx] at du
    exact ⟨c, b, dp_bool du, rfl, giv_f w1 (.bl _) (giv_q s1 R1 q)⟩
  | false =>
    refine pe_we (pe_cmpR op_isBl we_pe pe_bl rfl) ?_
    refine one ha e1 R w _ fun H' Hf' α' u s1 R1 w1 du => ?_
    rw [hx] at du
    exact ⟨c, b, dp_bool du, rfl, giv_f w1 (.bl _) (giv_q s1 R1 q)⟩
theorem st_isb {m b : Bool} {a : E} {ea : Expr} {pos pos' : Pos} {j : Nat} (ha : SE X C a ea) : ST X C (.isb m b a) (.Compare ea [if m then .IsNot else .Is] [.Constant (.bool b) j pos'] pos) := by
  intro ρ r ρ' t he ht σ H Hf α τ R w Q q
  obtain ⟨x, c, e1, hx, rfl⟩ := isb_inv he
  cases ht
  cases m with
  | true =>
    refine pt_wt (pt_cmpR op_notBl we_pe pe_bl rfl) ?_
    refine one ha e1 R w _ fun H' Hf' α' u s1 R1 w1 du => ?_
    rw [hx] at du
    exact ⟨c, b, dp_bool du, rfl, _, rfl, q H' Hf' α' s1 R1 w1⟩
  | false =>
    refine pt_wt (pt_cmpR op_isBl we_pe pe_bl rfl) ?_
    refine one ha e1 R w _ fun H' Hf' α' u s1 R1 w1 du => ?_
    rw [hx] at du
    exact ⟨c, b, dp_bool du, rfl, _, rfl, q H' Hf' α' s1 R1 w1⟩
/-! ### a call with a new list that is handed on -/
theorem se_callt (hc : Cn X G C n sc N) {g : Nat} {a : E} {f : Fn} {ps : List Str} {x : Str} {p pos : Pos} {e : Expr} (hs : SE X C a e) (hn : G.names[g]? = some x) (hp : G.pars[g]? = some ps) (hf : G.fns[g]? = some f)
    (hgl : glC sc x = true) (ho : okNm x = true) (hk : kindOk e = true) : SE X C (.callt g a) (.Call (.Name x p) [e] [] pos) := by
  intro ρ r ρ' he σ H Hf α τ R w Q q
  obtain ⟨y, ρ1, e1, he⟩ := bd_inv he
  obtain ⟨r', outs, e3, he⟩ := bd_inv he
  cases he
  obtain ⟨fa, fd, m1, m2, m3, m4, _⟩ := hc.pr.fn g x ps f hn hp hf
  refine pe_we (pe_posG m4 hc.gu hc.room (hc.gl hgl) m1 m2 m3 (pa_cons we_pe pa_nil (star_ok hk _ _)) (okNm_inv ho).1 (star_ok hk _ _) rfl) ?_
  refine hs ρ y _ e1 σ H Hf α τ R w _ fun H1 Hf1 α1 t s1 R1 et w1 => ?_
  have hlen : [y].length = f.np := hc.pr.ln g f [y] _ hf e3
  refine ⟨Hf1, [t], tr α1 ++ τ, r, outs, rfl, hlen, w1, by rw [show OA.os [t] = [y] from by show [t.o] = [y]; rw [et]]; exact e3, fun H2 Hf2 z bs s2 ez eb vb w2 => ?_⟩
  have w3 : WR X.K Hf2 H2 (bs ++ (z :: (tr α1 ++ τ))) := w2.perm perm_mid.symm
  exact q H2 Hf2 α1 z (s1.trans s2) R1 ez w3.right
end
/-! ### extend; lists within lists -/
section
variable {K : PySem.W.Frag} {Hf H : Hp} {T : List OA} {a b : Addr} {xs zs : List OA}
theorem WR.extend (w : WR K Hf H (.ol b zs :: .ol a xs :: T)) : H a = some (.lst (xs.map OA.v)) ∧ H b = some (.lst (zs.map OA.v)) ∧ WR K Hf (upd H a (.lst (xs.map OA.v ++ zs.map OA.v))) (.ol a (xs ++ zs) :: T) := by
  refine ⟨w.tail.ok.1.1, w.ok.1.1, ?_⟩
  obtain ⟨w1, _, _, _⟩ := w.opened
  have w2 : WR K Hf H (.ol a xs :: (zs ++ T)) := w1.perm perm_mid
  obtain ⟨w3, n, _, nf⟩ := w2.opened
  rw [← List.append_assoc] at w3 n
  have w4 := w3.closed nf n
  rw [List.map_append] at w4
  exact w4
theorem WR.into {y : OA} {j : Nat} (w : WR K Hf H (.ol a xs :: T)) (h : xs[j]? = some y) : WR K Hf H (y :: (xs.eraseIdx j ++ T)) ∧ a ∉ OA.ass (y :: (xs.eraseIdx j ++ T)) ∧
    ∀ {H' : Hp} {y' : OA} {T' : List OA}, y'.v = y.v → H' a = H a → WR K Hf H' (y' :: (xs.eraseIdx j ++ T')) → a ∉ OA.ass (y' :: (xs.eraseIdx j ++ T')) → WR K Hf H' (.ol a (xs.set j y') :: T') := by
  obtain ⟨w2, n, ha, nf⟩ := w.opened
  have p : (xs ++ T).Perm (y :: (xs.eraseIdx j ++ T)) := (out_perm h).append_right T
  refine ⟨w2.perm p, fun z => n ((ass_perm p).mem_iff.mpr z), fun {H' y' T'} ev eh w' n' => ?_⟩
  have p5 : (y' :: (xs.eraseIdx j ++ T')).Perm (xs.set j y' ++ T') := ((in_perm h).append_right T').symm
  have w6 := (w'.perm p5).closed nf fun z => n' ((ass_perm p5).mem_iff.mpr z)
  have e1 : (xs.set j y').map OA.v = xs.map OA.v := by
    rw [List.map_set, ev]
    refine set_id ?_
    rw [List.getElem?_map, h]
    rfl
  rw [e1, upd_self (by rw [eh]; exact ha)] at w6
  exact w6
end
section
variable {X : Cx} {G : Prg} {C : Ctx} {n : Nat} {sc : Scope} {N : List Str} {keep : List Nat}
theorem ss_extO (hc : Cn X G C n sc N) {i : Nat} {e : E} {x : Str} {p ap cp pos : Pos} {ee : Expr} (he : SE X C e ee) (hk : kindOk ee = true) (hl : (ap.endLine == cp.line) = true) (hi : N[i]? = some x) (hv : visC sc x = true) (ho : okNm x = true) :
    SS X C keep (.extO i e) (.Expr (.Call (.Attribute (.Name x p) "extend" ap) [ee] [] cp) pos) := by
  intro ρ fl hev σ H Hf α τ R w D kk
  obtain ⟨zs, e0, hev⟩ := b1_inv hev
  obtain ⟨o, ρ1, e1, hev⟩ := bd_inv hev
  obtain ⟨xs, e2, hev⟩ := b1_inv hev
  cases o with
  | ol os =>
    obtain ⟨hz, hev⟩ := gd_inv hev
    cases hev
    have hfew : ((backTo cp (starEach [ee] X.env)).all (fun x => !x.1) && (backToKw cp (keywordEach [] X.env)).all (fun x => x.1.isSome) && decide ([ee].length + ([] : List Keyword).length + (if ([] : List Keyword).isEmpty then 0 else 1) < 30)) = true := by
      rw [star_ok hk]; rfl
    refine ps_ws (ps_expr (pe_bm PySem.F.plainAttrs_list PySem.F.slot_list_extend PySem.F.type_list_extend mt_extend (pe_var (i := i) (by rw [hc.hN]; exact hi) (hc.vis hv) (okNm_inv ho).1 (okNm_inv ho).2) (pa_cons we_pe pa_nil (star_ok hk _ _)) rfl hfew hl (star_ok hk _ _) rfl) rfl) ?_
    obtain ⟨t0, f1, f2, f3⟩ := R.slot (getL_inv e0)
    obtain ⟨b0, bs, rfl, f4⟩ := oa_ol f2
    refine ⟨.ref b0, f3, .inl ⟨rfl, _, SqL.of (w.takeS f1).ok.1.1⟩, ?_⟩
    refine he ρ _ ρ1 e1 σ H Hf α τ R w _ fun H1 Hf1 α1 t s1 R1 eo w1 => ?_
    obtain ⟨c, cs, rfl, c4⟩ := oa_ol eo
    obtain ⟨t1, g1, g2, g3⟩ := R1.slot (getL_inv e2)
    obtain ⟨b, ys, rfl, g4⟩ := oa_ol g2
    rw [f3] at g3
    have ev : V.ref b0 = .ref b := Option.some.inj (Option.some.inj g3)
    have w2 : WR X.K Hf1 H1 (.ol b ys :: (tr (α1.set i none) ++ (.ol c cs :: τ))) := (w1.perm perm_mid.symm).takeS g1
    have w3 : WR X.K Hf1 H1 (.ol c cs :: .ol b ys :: (tr (α1.set i none) ++ τ)) := w2.perm ((List.Perm.cons _ perm_mid).trans (List.Perm.swap _ _ _))
    obtain ⟨x1, x2, w4⟩ := w3.extend
    refine ⟨b, c, ys.map OA.v, cs.map OA.v, ev, rfl, x1, x2, ?_, ?_⟩
    · rw [List.length_map, List.length_map, ← os_len, ← os_len, g4, c4]
      exact of_decide_eq_true hz
    · have hlen : i < α1.length := (List.getElem?_eq_some_iff.mp g1).1
      have R3 := R1.put (y := .ol b (ys ++ cs)) g1 rfl
      have eq1 : (OA.ol b (ys ++ cs)).o = .ol (xs ++ os) := by
        show OV.ol (OA.os (ys ++ cs)) = _
        rw [OA.os_map, List.map_append, ← OA.os_map, ← OA.os_map, g4, c4]
      rw [eq1] at R3
      exact kk _ _ Hf1 _ s1 R3 (w4.putS hlen) Kp.refl
  | fz o => cases hev
  | ot o => cases hev
theorem ss_appOO (hc : Cn X G C n sc N) {i : Nat} {a e : E} {x : Str} {p p2 ap cp pos : Pos} {ea ee : Expr} (ha : SE X C a ea) (he : SE X C e ee) (hka : kindOk ea = true) (hk : kindOk ee = true) (hl : (ap.endLine == cp.line) = true) (hi : N[i]? = some x) (hv : visC sc x = true) (ho : okNm x = true) :
    SS X C keep (.appOO i a e) (.Expr (.Call (.Attribute (.Subscript (.Name x p) ea p2) "append" ap) [ee] [] cp) pos) := by
  intro ρ fl hev σ H Hf α τ R w D kk
  obtain ⟨zs, e0, hev⟩ := b1_inv hev
  obtain ⟨y, ρ1, e1, hev⟩ := bd_inv hev
  obtain ⟨xs, e2, hev⟩ := b1_inv hev
  cases hy : y.d with
  | int k =>
    rw [hy] at hev
    obtain ⟨j, e5, hev⟩ := b1_inv (show b1 (PF.ixN xs.length k) _ = some fl from hev)
    obtain ⟨ro, e6, hev⟩ := b1_inv hev
    cases ro with
    | ol ys =>
      obtain ⟨o, ρ3, e7, hev⟩ := bd_inv (show bd (evE C e (ρ1.set i none)) _ = some fl from hev)
      obtain ⟨hz, hev⟩ := gd_inv hev
      cases hev
      have hfew : ((backTo cp (starEach [ee] X.env)).all (fun x => !x.1) && (backToKw cp (keywordEach [] X.env)).all (fun x => x.1.isSome) && decide ([ee].length + ([] : List Keyword).length + (if ([] : List Keyword).isEmpty then 0 else 1) < 30)) = true := by
        rw [star_ok hk]; rfl
      refine ps_ws (ps_expr (pe_bm PySem.F.plainAttrs_list PySem.F.slot_list_append PySem.F.type_list_append mt_append (pe_ix ix_list (pe_var (i := i) (by rw [hc.hN]; exact hi) (hc.vis hv) (okNm_inv ho).1 (okNm_inv ho).2) we_pe (plain_ix hka)) (pa_cons we_pe pa_nil (star_ok hk _ _)) rfl hfew hl (star_ok hk _ _) rfl) rfl) ?_
      obtain ⟨t0, f1, f2, f3⟩ := R.slot (getL_inv e0)
      refine ⟨t0.v, f3, ?_⟩
      refine one ha e1 R w _ fun H2 Hf2 α2 u s2 R2 w2 du => ?_
      obtain ⟨t1, g1, g2, g3⟩ := R2.slot (getL_inv e2)
      obtain ⟨c, cs, rfl, g4⟩ := oa_ol g2
      have ev : t0.v = .ref c := by
        rw [f3] at g3
        exact Option.some.inj (Option.some.inj g3)
      have w3 := w2.takeS g1
      rw [hy] at du
      rw [← g4] at e5 e6
      rw [os_len] at e5
      obtain ⟨row, q1, q2⟩ := os_at e6
      obtain ⟨rb, rs, rfl, q3⟩ := oa_ol q2
      have hat : atI (cs.map OA.v) k = some (.ref rb) := by
        rw [← atD_eq]
        unfold atD
        rw [List.length_map, e5]
        show (cs.map OA.v)[j]? = _
        rw [List.getElem?_map, q1]
        rfl
      refine ⟨c, cs.map OA.v, k, .ref rb, ev, dp_int du, SqL.of w3.ok.1.1, hat, ?_⟩
      refine ⟨.inl ⟨rfl, _, SqL.of (oks_at w3.ok.1.2.2 q1).1⟩, ?_⟩
      refine he _ o _ e7 σ H2 Hf2 _ (.ol c cs :: τ) (R2.drop i) (w3.perm perm_mid.symm) _ fun H3 Hf3 α3 t s3 R3 eo w4 => ?_
      have w5 : WR X.K Hf3 H3 (.ol c cs :: (t :: (tr α3 ++ τ))) := w4.perm ((List.Perm.cons _ perm_mid).trans (List.Perm.swap _ _ _))
      obtain ⟨w6, n6, k6⟩ := w5.into q1
      have w7 : WR X.K Hf3 H3 (t :: .ol rb rs :: (cs.eraseIdx j ++ (tr α3 ++ τ))) := w6.perm ((List.Perm.cons _ perm_mid).trans (List.Perm.swap _ _ _))
      have n7 : c ∉ OA.ass (t :: .ol rb rs :: (cs.eraseIdx j ++ (tr α3 ++ τ))) := fun z => n6 ((ass_perm ((List.Perm.cons _ perm_mid).trans (List.Perm.swap _ _ _))).mem_iff.mpr z)
      refine ⟨rb, rs.map OA.v, t.v, rfl, rfl, w7.tail.ok.1.1, ?_, ?_⟩
      · rw [List.length_map, ← os_len, q3]
        exact of_decide_eq_true hz
      · have cb : c ≠ rb := fun z => n7 (by
          rw [z]
          exact List.mem_append_right _ (List.mem_append_left _ List.mem_cons_self))
        have w8 := k6 (T' := tr α3 ++ τ) (y' := .ol rb (rs ++ [t])) rfl (upd_ne cb) w7.append (fun z => n7 (by
          rcases List.mem_append.mp z with z | z
          · rcases List.mem_cons.mp z with z | z
            · exact absurd z cb
            · rw [OA.ass_app] at z
              rcases List.mem_append.mp z with z | z
              · exact List.mem_append_right _ (List.mem_append_left _ (List.mem_cons_of_mem _ z))
              · refine List.mem_append_left _ ?_
                have z : c ∈ t.as ++ [] := z
                rwa [List.append_nil] at z
          · exact List.mem_append_right _ (List.mem_append_right _ z)))
        have R4 := R3.back (i := i) (t := .ol c (cs.set j (.ol rb (rs ++ [t])))) (by rw [f3, ev]; rfl)
        have eq1 : (OA.ol c (cs.set j (.ol rb (rs ++ [t])))).o = .ol (xs.set j (.ol (ys ++ [o]))) := by
          show OV.ol (OA.os (cs.set j (.ol rb (rs ++ [t])))) = _
          rw [os_set, g4]
          show OV.ol (xs.set j (.ol (OA.os (rs ++ [t])))) = _
          rw [OA.os_map, List.map_append, ← OA.os_map, q3]
          show OV.ol (xs.set j (.ol (ys ++ [t.o]))) = _
          rw [eo]
        rw [eq1] at R4
        exact kk _ _ Hf3 _ (s2.trans s3) R4 w8.store Kp.refl
    | fz o => cases hev
    | ot o => cases hev
  | _ => rw [hy] at hev; cases hev
theorem WR.openT {K : PySem.W.Frag} {Hf H : Hp} {T : List OA} {a : Addr} {xs : List OA} (w : WR K Hf H (.ot a xs :: T)) : WR K Hf H (xs ++ T) :=
  ⟨w.sub, OA.oks_app.mpr ⟨w.ok.1.2, w.ok.2⟩, by
    rw [OA.ass_app]
    exact w.nd⟩
theorem WR.outOf {K : PySem.W.Frag} {Hf H : Hp} {T : List OA} {xs : List OA} {y : OA} (w : WR K Hf H (xs ++ T)) (h : y ∈ xs) : ∃ r : List OA, WR K Hf H (y :: (r ++ T)) := by
  obtain ⟨as, bs, rfl⟩ := List.append_of_mem h
  refine ⟨as ++ bs, w.perm ?_⟩
  rw [List.append_assoc, List.append_assoc]
  exact perm_mid
theorem oa_ot {x : OA} {xs : List OV} (h : x.o = .ot xs) : ∃ a ys, x = .ot a ys ∧ OA.os ys = xs := by
  cases x with
  | fz v e => cases h
  | ol a ys => cases h
  | ot a ys => cases h; exact ⟨a, ys, rfl, rfl⟩
theorem otD_inv {o : OV} {xs : List OV} (h : otD o = some xs) : o = .ot xs := by
  cases o with
  | fz d => cases h
  | ol ys => cases h
  | ot ys => cases h; rfl
theorem ss_appOT (hc : Cn X G C n sc N) {i : Nat} {a b e : E} {x : Str} {p p2 p3 ap cp pos : Pos} {ea eb ee : Expr} (ha : SE X C a ea) (hb : SE X C b eb) (he : SE X C e ee) (hka : kindOk ea = true) (hkb : kindOk eb = true) (hk : kindOk ee = true) (hl : (ap.endLine == cp.line) = true) (hi : N[i]? = some x) (hv : visC sc x = true) (ho : okNm x = true) :
    SS X C keep (.appOT i a b e) (.Expr (.Call (.Attribute (.Subscript (.Subscript (.Name x p) ea p2) eb p3) "append" ap) [ee] [] cp) pos) := by
  intro ρ fl hev σ H Hf α τ R w D kk
  obtain ⟨xs, e0, hev⟩ := b1_inv hev
  obtain ⟨y, ρ1, e1, hev⟩ := bd_inv hev
  cases hy : y.d with
  | int k =>
    rw [hy] at hev
    obtain ⟨ro, e3, hev⟩ := b1_inv (show b1 (atD xs k) _ = some fl from hev)
    obtain ⟨ys, e4, hev⟩ := b1_inv hev
    obtain ⟨z, ρ2, e5, hev⟩ := bd_inv hev
    cases hz : z.d with
    | int l =>
      rw [hz] at hev
      obtain ⟨po, e6, hev⟩ := b1_inv (show b1 (atD ys l) _ = some fl from hev)
      cases po with
      | ol zs =>
        obtain ⟨o, ρ3, e7, hev⟩ := bd_inv (show bd (evE C e ρ2) _ = some fl from hev)
        obtain ⟨hlt, hev⟩ := gd_inv hev
        cases hev
        have hfew : ((backTo cp (starEach [ee] X.env)).all (fun x => !x.1) && (backToKw cp (keywordEach [] X.env)).all (fun x => x.1.isSome) && decide ([ee].length + ([] : List Keyword).length + (if ([] : List Keyword).isEmpty then 0 else 1) < 30)) = true := by
          rw [star_ok hk]; rfl
        refine ps_ws (ps_expr (pe_bm PySem.F.plainAttrs_list PySem.F.slot_list_append PySem.F.type_list_append mt_append (pe_ix ix_tup (pe_ix ix_list (pe_var (i := i) (by rw [hc.hN]; exact hi) (hc.vis hv) (okNm_inv ho).1 (okNm_inv ho).2) we_pe (plain_ix hka)) we_pe (plain_ix hkb)) (pa_cons we_pe pa_nil (star_ok hk _ _)) rfl hfew hl (star_ok hk _ _) rfl) rfl) ?_
        obtain ⟨t0, f1, f2, f3⟩ := R.slot (getL_inv e0)
        obtain ⟨c, cs, rfl, g4⟩ := oa_ol f2
        refine ⟨_, f3, ?_⟩
        refine one ha e1 (R.drop i) ((w.takeS f1).perm perm_mid.symm) _ fun H2 Hf2 α2 u s2 R2 w2 du => ?_
        have w3 : WR X.K Hf2 H2 (.ol c cs :: (tr α2 ++ τ)) := w2.perm perm_mid
        rw [hy] at du
        rw [← g4] at e3
        obtain ⟨row, q1, q2, q3⟩ := at_tree e3
        obtain ⟨rt, ts, rfl, q4⟩ := oa_ot (q2.trans (otD_inv e4))
        refine ⟨c, cs.map OA.v, k, .ref rt, rfl, dp_int du, SqL.of w3.ok.1.1, q1, ?_⟩
        refine one hb e5 R2 w2 _ fun H3 Hf3 α3 u3 s3 R3 w4 dz => ?_
        have w5 : WR X.K Hf3 H3 (.ol c cs :: (tr α3 ++ τ)) := w4.perm perm_mid
        have okr : (OA.ot rt ts).ok X.K Hf3 H3 := OA.oks_all.mp w5.ok.1.2.2 _ q3
        rw [hz] at dz
        rw [← q4] at e6
        obtain ⟨cell, c1, c2, c3⟩ := at_tree e6
        obtain ⟨rb, rs, rfl, c4⟩ := oa_ol c2
        refine ⟨rt, ts.map OA.v, l, .ref rb, rfl, dp_int dz, .inl (.inl (w5.sub _ _ okr.1)), c1, ?_⟩
        have okb : (OA.ol rb rs).ok X.K Hf3 H3 := OA.oks_all.mp okr.2 _ c3
        refine ⟨.inl ⟨rfl, _, SqL.of okb.1⟩, ?_⟩
        refine he _ o _ e7 σ H3 Hf3 _ (.ol c cs :: τ) R3 w4 _ fun H4 Hf4 α4 t s4 R4 eo w6 => ?_
        have w7 : WR X.K Hf4 H4 (.ol c cs :: (t :: (tr α4 ++ τ))) := w6.perm ((List.Perm.cons _ perm_mid).trans (List.Perm.swap _ _ _))
        obtain ⟨w8, _, _, _⟩ := w7.opened
        obtain ⟨r1, w9⟩ := w8.outOf q3
        obtain ⟨r2, w10⟩ := w9.openT.outOf c3
        have w11 : WR X.K Hf4 H4 (t :: .ol rb rs :: (r2 ++ (r1 ++ (tr α4 ++ τ)))) := by
          refine w10.perm ?_
          refine List.Perm.trans (List.Perm.cons _ ?_) (List.Perm.swap _ _ _)
          refine (List.Perm.append_left r2 perm_mid).trans ?_
          exact perm_mid
        have w12 := w11.append
        refine ⟨rb, rs.map OA.v, t.v, rfl, rfl, w11.tail.ok.1.1, ?_, ?_⟩
        · rw [List.length_map, ← os_len, c4]
          exact of_decide_eq_true hlt
        · exact kk _ _ Hf4 _ (s2.trans (s3.trans s4)) R4 w12.tail.right.right Kp.refl
      | fz o => cases hev
      | ot o => cases hev
    | _ => rw [hz] at hev; cases hev
  | _ => rw [hy] at hev; cases hev
theorem ss_extOO (hc : Cn X G C n sc N) {i : Nat} {a e : E} {x : Str} {p p2 ap cp pos : Pos} {ea ee : Expr} (ha : SE X C a ea) (he : SE X C e ee) (hka : kindOk ea = true) (hk : kindOk ee = true) (hl : (ap.endLine == cp.line) = true) (hi : N[i]? = some x) (hv : visC sc x = true) (ho : okNm x = true) :
    SS X C keep (.extOO i a e) (.Expr (.Call (.Attribute (.Subscript (.Name x p) ea p2) "extend" ap) [ee] [] cp) pos) := by
  intro ρ fl hev σ H Hf α τ R w D kk
  obtain ⟨zs, e0, hev⟩ := b1_inv hev
  obtain ⟨y, ρ1, e1, hev⟩ := bd_inv hev
  obtain ⟨xs, e2, hev⟩ := b1_inv hev
  cases hy : y.d with
  | int k =>
    rw [hy] at hev
    obtain ⟨j, e5, hev⟩ := b1_inv (show b1 (PF.ixN xs.length k) _ = some fl from hev)
    obtain ⟨ro, e6, hev⟩ := b1_inv hev
    cases ro with
    | ol ys =>
      obtain ⟨o, ρ3, e7, hev⟩ := bd_inv (show bd (evE C e (ρ1.set i none)) _ = some fl from hev)
      cases o with
      | ol us =>
        obtain ⟨hz, hev⟩ := gd_inv hev
        cases hev
        have hfew : ((backTo cp (starEach [ee] X.env)).all (fun x => !x.1) && (backToKw cp (keywordEach [] X.env)).all (fun x => x.1.isSome) && decide ([ee].length + ([] : List Keyword).length + (if ([] : List Keyword).isEmpty then 0 else 1) < 30)) = true := by
          rw [star_ok hk]; rfl
        refine ps_ws (ps_expr (pe_bm PySem.F.plainAttrs_list PySem.F.slot_list_extend PySem.F.type_list_extend mt_extend (pe_ix ix_list (pe_var (i := i) (by rw [hc.hN]; exact hi) (hc.vis hv) (okNm_inv ho).1 (okNm_inv ho).2) we_pe (plain_ix hka)) (pa_cons we_pe pa_nil (star_ok hk _ _)) rfl hfew hl (star_ok hk _ _) rfl) rfl) ?_
        obtain ⟨t0, f1, f2, f3⟩ := R.slot (getL_inv e0)
        refine ⟨t0.v, f3, ?_⟩
        refine one ha e1 R w _ fun H2 Hf2 α2 u s2 R2 w2 du => ?_
        obtain ⟨t1, g1, g2, g3⟩ := R2.slot (getL_inv e2)
        obtain ⟨c, cs, rfl, g4⟩ := oa_ol g2
        have ev : t0.v = .ref c := by
          rw [f3] at g3
          exact Option.some.inj (Option.some.inj g3)
        have w3 := w2.takeS g1
        rw [hy] at du
        rw [← g4] at e5 e6
        rw [os_len] at e5
        obtain ⟨row, q1, q2⟩ := os_at e6
        obtain ⟨rb, rs, rfl, q3⟩ := oa_ol q2
        have hat : atI (cs.map OA.v) k = some (.ref rb) := by
          rw [← atD_eq]
          unfold atD
          rw [List.length_map, e5]
          show (cs.map OA.v)[j]? = _
          rw [List.getElem?_map, q1]
          rfl
        refine ⟨c, cs.map OA.v, k, .ref rb, ev, dp_int du, SqL.of w3.ok.1.1, hat, ?_⟩
        refine ⟨.inl ⟨rfl, _, SqL.of (oks_at w3.ok.1.2.2 q1).1⟩, ?_⟩
        refine he _ _ _ e7 σ H2 Hf2 _ (.ol c cs :: τ) (R2.drop i) (w3.perm perm_mid.symm) _ fun H3 Hf3 α3 t s3 R3 eo w4 => ?_
        obtain ⟨d, ds, rfl, d4⟩ := oa_ol eo
        have w5 : WR X.K Hf3 H3 (.ol c cs :: (.ol d ds :: (tr α3 ++ τ))) := w4.perm ((List.Perm.cons _ perm_mid).trans (List.Perm.swap _ _ _))
        obtain ⟨w6, n6, k6⟩ := w5.into q1
        have w7 : WR X.K Hf3 H3 (.ol d ds :: .ol rb rs :: (cs.eraseIdx j ++ (tr α3 ++ τ))) := w6.perm ((List.Perm.cons _ perm_mid).trans (List.Perm.swap _ _ _))
        have n7 : c ∉ OA.ass (.ol d ds :: .ol rb rs :: (cs.eraseIdx j ++ (tr α3 ++ τ))) := fun z => n6 ((ass_perm ((List.Perm.cons _ perm_mid).trans (List.Perm.swap _ _ _))).mem_iff.mpr z)
        obtain ⟨x1, x2, w7e⟩ := w7.extend
        refine ⟨rb, d, rs.map OA.v, ds.map OA.v, rfl, rfl, x1, x2, ?_, ?_⟩
        · rw [List.length_map, List.length_map, ← os_len, ← os_len, q3, d4]
          exact of_decide_eq_true hz
        · have cb : c ≠ rb := fun z => n7 (by
            rw [z]
            exact List.mem_append_right _ (List.mem_append_left _ List.mem_cons_self))
          have w8 := k6 (T' := tr α3 ++ τ) (y' := .ol rb (rs ++ ds)) rfl (upd_ne cb) w7e (fun z => n7 (by
            rcases List.mem_append.mp z with z | z
            · rcases List.mem_cons.mp z with z | z
              · exact absurd z cb
              · rw [OA.ass_app] at z
                rcases List.mem_append.mp z with z | z
                · exact List.mem_append_right _ (List.mem_append_left _ (List.mem_cons_of_mem _ z))
                · exact List.mem_append_left _ (List.mem_cons_of_mem _ z)
            · exact List.mem_append_right _ (List.mem_append_right _ z)))
          have R4 := R3.back (i := i) (t := .ol c (cs.set j (.ol rb (rs ++ ds)))) (by rw [f3, ev]; rfl)
          have eq1 : (OA.ol c (cs.set j (.ol rb (rs ++ ds)))).o = .ol (xs.set j (.ol (ys ++ us))) := by
            show OV.ol (OA.os (cs.set j (.ol rb (rs ++ ds)))) = _
            rw [os_set, g4]
            show OV.ol (xs.set j (.ol (OA.os (rs ++ ds)))) = _
            rw [OA.os_map, List.map_append, ← OA.os_map, ← OA.os_map, q3, d4]
          rw [eq1] at R4
          exact kk _ _ Hf3 _ (s2.trans s3) R4 w8.store Kp.refl
      | fz o => cases hev
      | ot o => cases hev
    | fz o => cases hev
    | ot o => cases hev
  | _ => rw [hy] at hev; cases hev
end
end PF

/-! PF: t[::-1]. -/
namespace PF
open PySem PySem.Spec PyProof.Rows L2
theorem rev_adj (n : Nat) : Builtin.Slice.sliceAdjust none none (-1) (n : Int) = ((n : Int) - 1, -1) := rfl
theorem rev_plc (n : Nat) : Builtin.Slice.slicePlaces ((n : Int) - 1) (-1) (-1) = n := by
  unfold Builtin.Slice.slicePlaces
  rw [if_neg (by decide)]
  by_cases h : (n : Int) - 1 > -1
  · rw [if_pos h]
    have : ((n : Int) - 1 - -1 - 1) / (- -1) + 1 = n := by
      rw [show (- -1 : Int) = 1 by decide, Int.ediv_one]
      omega
    rw [this]
    rfl
  · rw [if_neg h]
    show 0 = n
    omega
theorem rev_pick (xs : Array Value) : ((List.range xs.size).filterMap fun (k : Nat) => xs[((xs.size : Int) - 1 + (k : Int) * (-1)).toNat]?) = xs.toList.reverse := by
  have e : ((List.range xs.size).filterMap fun (k : Nat) => xs[((xs.size : Int) - 1 + (k : Int) * (-1)).toNat]?) = ((List.range xs.size).map fun k => xs.size - 1 - k).filterMap (xs[·]?) := by
    rw [List.filterMap_map]
    have ef : (fun (k : Nat) => xs[((xs.size : Int) - 1 + (k : Int) * (-1)).toNat]?) = ((fun x => xs[x]?) ∘ fun k => xs.size - 1 - k) := funext fun k => by
      show xs[((xs.size : Int) - 1 + (k : Int) * (-1)).toNat]? = xs[xs.size - 1 - k]?
      rw [show ((xs.size : Int) - 1 + (k : Int) * (-1)).toNat = xs.size - 1 - k by omega]
    rw [ef]
  rw [e, PySem.W.krv_range, List.filterMap_reverse, PySem.W.krv_all]
section
variable {prog : Program} {w : World} {A : Around} {E : Value → Shared → Prop} {s : Shared}
theorem rev_applied {sl : Addr} {vl vu vs : Value} {n : Nat} {Q : Int × Int × Nat → Shared → Prop} (hs : s.heap.IsSliceOf sl vl vu vs) (pl : IsPart vl none) (pu : IsPart vu none) (pk : IsPart vs (some (-1)))
    (h : Q ((n : Int) - 1, -1, n) s) : wpAny (model prog w) A (Builtin.Slice.sliceApplied (.ref sl) (pure (n : Int))) Q E s := by
  obtain ⟨ob, o1, o2, o3⟩ := id hs
  unfold Builtin.Slice.sliceApplied Builtin.Slice.sliceFields
  refine wpAny_bind (wpAny_bind (wpAny_field o1 o3 (x := vl) rfl (wpAny_bind (wpAny_field o1 o3 (x := vu) rfl (wpAny_bind (wpAny_field o1 o3 (x := vs) rfl (wpAny_pure ?_)))))))
  refine wpAny_bind (HT.slicePart_ pk ?_)
  show wpAny _ _ (if ((-1 : Int) == 0) = true then _ else _) _ _ s
  rw [if_neg (by decide)]
  refine wpAny_bind (HT.slicePart_ pl (wpAny_bind (HT.slicePart_ pu (wpAny_bind (wpAny_pure ?_)))))
  show wpAny _ _ (pure ((n : Int) - 1, (-1 : Int), Builtin.Slice.slicePlaces ((n : Int) - 1) (-1) (-1))) _ _ s
  rw [rev_plc]
  exact wpAny_pure h
theorem item_rev {t sl : Addr} {items : Array Value} {vl vu vs : Value} {Q : Value → Shared → Prop} (ht : IsTup s.heap t items) (hs : s.heap.IsSliceOf sl vl vu vs) (pl : IsPart vl none) (pu : IsPart vu none) (pk : IsPart vs (some (-1))) (hz : items.size ≤ sizeLine)
    (h : Q (.ref s.heap.objs.size) { s with heap := s.heap.push { cls := .type "tuple", data := .seq items.toList.reverse.toArray } }) : wpAny (model prog w) A (getItem (.ref t) (.ref sl)) Q E s := by
  have fits : sizeOk (.seq items.toList.reverse.toArray) := by
    show items.toList.reverse.toArray.size ≤ sizeLine
    rw [List.size_toArray, List.length_reverse, Array.length_toList]
    exact hz
  obtain ⟨ob, o1, o2, o3⟩ := id hs
  have ty : s.TypeIs (.ref sl) "slice" := ⟨ob, o1, o2⟩
  unfold getItem
  try with_reducible refine wpAny_holding ?_
  first | refine wpAny_bind (wpAny_pure ?_) | skip
  refine wpAny_bind (wpAny_sequenceKey (s := s) ht.typeIs (by decide) ?_)
  refine wpAny_bind (wpAny_callSpecial?_slot (s := s) (name := Str.ofString "__getitem__") ht.typeIs PyProof.Rows.slot_tuple_getitem (wpAny_call_entry PyProof.Rows.slot_tuple_getitem ht.typeIs entry_tuple_getitem ?_ (args_tuple_getitem _ _)))
  show wpAny _ _ (Builtin.Tuple.tupleItemsOf (Value.ref t) >>= _) _ _ s
  refine wpAny_bind (tupleItemsOf_ (s := s) ht ?_)
  refine wpAny_bind (wpAny_typeOf (s := s) ty ?_)
  rw [if_pos (show _ from by decide)]
  refine wpAny_bind (rev_applied hs pl pu pk ?_)
  show wpAny _ _ (if ((items.size : Int) - 1 == 0 && (-1 : Int) == 1 && items.size == items.size) = true then _ else _) _ _ s
  rw [if_neg (by rw [show ((-1 : Int) == 1) = false by decide, Bool.and_false, Bool.false_and]; exact Bool.false_ne_true), rev_pick]
  first
    | exact wpAny_bind (m := Builtin.Tuple.tupleExact _) (wpAny_newObj_type (s := s) (wpAny_pure ⟨_, rfl, wpAny_pure h⟩) fits)
    | exact wpAny_bind (m := Builtin.Tuple.tupleExact _) (wpAny_newObj_type (s := s) (wpAny_bind (wpAny_pure (wpAny_pure ⟨_, rfl, wpAny_pure h⟩))) fits)
    | exact wpAny_bind (wpAny_bind (m := Builtin.Tuple.tupleExact _) (wpAny_newObj_type (s := s) (wpAny_pure (wpAny_pure ⟨_, rfl, wpAny_pure h⟩)) fits))
    | exact wpAny_bind (wpAny_bind (m := Builtin.Tuple.tupleExact _) (wpAny_newObj_type (s := s) (wpAny_pure ⟨_, rfl, wpAny_pure h⟩) fits))
end
section
variable {X : Cx}
def tRevT (K : PySem.W.Frag) (te : TE) : TE := fun σ H Q => te σ H fun x H1 => ∃ a xs, x = .ref a ∧ SqT K H1 a xs ∧ ∀ p, H1 p = none → Q (.ref p) (upd H1 p (.tup xs.reverse))
theorem pe_revT {e : Expr} {te : TE} {k : Nat} {p1 p2 p3 pos : Pos} (he : PE X e te) : PE X (.Subscript e (.Slice none none (some (.UnaryOp .USub (.Constant (.int 1) k p1) p2)) p3) pos) (tRevT X.K te) := by
  refine ⟨fun pins s σ H Q I h => ?_⟩
  refine Subscript_ (thn (he.run pins s σ H _ I h) fun v t1 ⟨x, H1, I1, r1, q1⟩ => ?_)
  obtain ⟨a, xs, rfl, hx, q⟩ := q1
  cases r1
  have st : PO X (some (.UnaryOp .USub (.Constant (.int 1) k p1) p2)) (tPart (tUn (rU fun i => .int (-i)) (tC (.int 1)))) := po_some (pe_un un_neg pe_int)
  refine wpAny_Slice (thn (po_none.run pins t1 σ H1 (fun o G => o = none ∧ G = H1) I1 ⟨rfl, rfl⟩) fun vl t2 ⟨l, H2, I2, pl, el, e2⟩ => ?_)
  subst el e2
  refine thn (po_none.run pins t2 σ H2 (fun o G => o = none ∧ G = H2) I2 ⟨rfl, rfl⟩) fun vu t3 ⟨u, H3, I3, pu, eu, e3⟩ => ?_
  subst eu e3
  refine thn (st.run pins t3 σ H3 (fun o G => o = some (-1) ∧ G = H3) I3 ⟨1, rfl, -1, rfl, rfl, rfl⟩) fun vs t4 ⟨o, H4, I4, ps, eo, e4⟩ => ?_
  subst eo e4
  have I5 : Inv X pins σ H4 { t4 with heap := t4.heap.push { cls := .type "slice", data := .fields #[vl, vu, vs] } } := I4.kept (t' := t4.toks) fun b ob q => Heap.get?_push_of_some _ q
  obtain ⟨its, r, ht, hz⟩ := I5.tuple hx
  have hlen := r.length
  show wpAny (model X.prog X.w) X.A (subscriptTail e (.Slice none none (some (.UnaryOp .USub (.Constant (.int 1) k p1) p2)) p3) (.ref a) (.ref t4.heap.objs.size)) (EP X pins σ Q) X.xe { t4 with heap := t4.heap.push { cls := .type "slice", data := .fields #[vl, vu, vs] } }
  refine tail_any (ops := [.ref a, .ref t4.heap.objs.size]) ht.typeIs (PyProof.Rows.slot_tuple_getitem.lookup) ?_ (by with_unfolding_all rfl)
  refine item_rev ht (Heap.IsSliceOf.new _ vl vu vs) pl pu ps (by rw [List.size_toArray]; omega) ?_
  refine ⟨.ref _, _, I5.laid (t' := t4.toks) (o := .tup xs.reverse) (fun b ob q => Heap.get?_push_of_some _ q) (Nat.le_refl _) ?_, rfl, q _ (I5.hok.fresh (Nat.le_refl _))⟩
  exact ⟨by rw [List.length_reverse]; exact hz, _, r.reverse, IsTup.new _ _⟩
/-- two lists of one's own, one behind the other: what they own goes over -/
theorem WR.cat {K : PySem.W.Frag} {Hf H : Hp} {T : List OA} {c b p : Addr} {cs bs : List OA} (w : WR K Hf H (.ol b bs :: .ol c cs :: T)) (n : H p = none) : WR K Hf (upd H p (.lst (cs.map OA.v ++ bs.map OA.v))) (.ol p (cs ++ bs) :: T) := by
  obtain ⟨w1, _, _, _⟩ := w.opened
  have w2 : WR K Hf H (.ol c cs :: (bs ++ T)) := w1.perm perm_mid
  obtain ⟨w3, _, _, _⟩ := w2.opened
  rw [← List.append_assoc] at w3
  have w4 := w3.newL n
  rw [List.map_append] at w4
  exact w4
theorem se_cat {C : Ctx} {a b : E} {ea eb : Expr} {pos : Pos} (ha : SE X C a ea) (hb : SE X C b eb) : SE X C (.cat a b) (.BinOp ea .Add eb pos) := by
  intro ρ r ρ' he σ H Hf α τ R w Q q
  obtain ⟨x, ρ1, e1, he⟩ := bd_inv he
  obtain ⟨y, ρ2, e2, he⟩ := bd_inv he
  cases x with
  | ol xs =>
    cases y with
    | ol ys =>
      obtain ⟨hz, he⟩ := gd_inv he
      cases he
      refine pe_we (pe_op op_cat we_pe we_pe) ?_
      refine ha ρ _ ρ1 e1 σ H Hf α τ R w _ fun H1 Hf1 α1 t s1 R1 eo w1 => ?_
      obtain ⟨c, cs, rfl, c4⟩ := oa_ol eo
      refine hb ρ1 _ _ e2 σ H1 Hf1 α1 (.ol c cs :: τ) R1 (w1.perm perm_mid.symm) _ fun H2 Hf2 α2 t2 s2 R2 eo2 w2 => ?_
      obtain ⟨b, bs, rfl, b4⟩ := oa_ol eo2
      have w3 : WR X.K Hf2 H2 (.ol b bs :: .ol c cs :: (tr α2 ++ τ)) := w2.perm (List.Perm.cons _ perm_mid)
      obtain ⟨x1, x2, _⟩ := w3.extend
      refine ⟨c, b, cs.map OA.v, bs.map OA.v, rfl, rfl, x1, x2, ?_, fun p hp => ?_⟩
      · rw [List.length_map, List.length_map, ← os_len, ← os_len, c4, b4]
        exact of_decide_eq_true hz
      · refine q _ _ α2 (.ol p (cs ++ bs)) (s1.trans s2) R2 ?_ (w3.cat hp)
        show OV.ol (OA.os (cs ++ bs)) = _
        rw [OA.os_map, List.map_append, ← OA.os_map, ← OA.os_map, c4, b4]
    | _ => cases he
  | _ => cases he
end
section
variable {X : Cx} {G : Prg} {C : Ctx} {n : Nat} {sc : Scope} {N : List Str}
/-! ### defs as values -/
theorem se_fnv (hc : Cn X G C n sc N) {x : Str} {pos : Pos} {g : Nat} (hx : G.names[g]? = some x) (hg : glC sc x = true) (ho : okNm x = true) : SE X C (.fnv x) (.Name x pos) := by
  intro ρ r ρ' he σ H Hf α τ R w Q q
  cases he
  exact pe_we (pe_glob (hc.gl hg) (hc.pr.ga g x hx) (v := .ref (He.ga X.K x)) rfl (okNm_inv ho).1) (q H Hf α (.fz (.ref (He.ga X.K x)) (fnD x)) (Same.refl _) R rfl (w.addF (.fn x)))
theorem frz_trees {K : PySem.W.Frag} {Hf H : Hp} {T : List OA} (w : WR K Hf H T) : ∀ {vs : List V} {ds : List D}, DpAll K Hf vs ds → ∃ as : List OA, as.map OA.v = vs ∧ OA.os as = fzs ds ∧ WR K Hf H (as ++ T)
  | _, _, .nil => ⟨[], rfl, rfl, w⟩
  | _, _, .cons (v := v) (d := d) h t => by
    obtain ⟨as, a1, a2, a3⟩ := frz_trees w t
    exact ⟨.fz v d :: as, by rw [List.map_cons, a1]; rfl, by rw [OA.os, a2]; rfl, a3.addF h⟩
theorem fnN_inv {d : D} {x : Str} (h : fnN d = some x) : d = fnD x := by
  unfold fnN at h
  split at h
  · cases h; rfl
  · cases h
theorem lookup_mem {y : Str} {g : Nat} : ∀ {cs : List (Str × Nat)}, cs.lookup y = some g → (y, g) ∈ cs
  | [], h => by cases h
  | (z, k) :: cs, h => by
    rw [List.lookup_cons] at h
    split at h
    · rename_i hb
      cases h
      rw [beq_iff_eq.mp hb]
      exact List.mem_cons_self
    · exact List.mem_cons_of_mem _ (lookup_mem h)
theorem se_callv (hc : Cn X G C n sc N) {i : Nat} {cs : List (Str × Nat)} {a : E} {es : Es} {x : Str} {p pos : Pos} {e : Expr} {ees : List Expr} (ha : SE X C a e) (hs : SEs X C es ees)
    (hcs : ∀ q ∈ cs, ∃ ps f, G.names[q.2]? = some q.1 ∧ G.pars[q.2]? = some ps ∧ G.fns[q.2]? = some f ∧ f.io = []) (hi : N[i]? = some x) (hv : visC sc x = true) (ho : okNm x = true) (hk : kindOks (e :: ees) = true) : SE X C (.callv i cs a es) (.Call (.Name x p) (e :: ees) [] pos) := by
  intro ρ r ρ' he σ H Hf α τ R w Q q
  have z := Bool.and_eq_true_iff.mp (show (kindOk e && ees.all kindOk) = true from hk)
  obtain ⟨d, e0, he⟩ := b1_inv he
  obtain ⟨y, e1, he⟩ := b1_inv he
  obtain ⟨g, e2, he⟩ := b1_inv he
  obtain ⟨b, ρ1, e3, he⟩ := bd_inv he
  obtain ⟨ys, ρ2, e4, he⟩ := bd_inv he
  obtain ⟨r', outs, e5, he⟩ := bd_inv he
  cases outs with
  | cons o os => cases he
  | nil =>
    have he := Option.some.inj he
    injection he with her heρ
    subst her heρ
    have ed := fnN_inv e1
    subst ed
    obtain ⟨t, t1, t2, t3⟩ := R.slot (getF_inv e0)
    have ev : t.v = .ref (He.ga X.K y) := by
      cases t with
      | fz v d =>
        have ed : d = fnD y := by cases t2; rfl
        subst ed
        have dp := slot_dp w t1
        cases dp
        rfl
      | ol b xs => cases t2
      | ot b xs => cases t2
    rw [ev] at t3
    have mem : (y, g) ∈ cs := lookup_mem e2
    obtain ⟨ps, f, n1, n2, n3, n4⟩ := hcs _ mem
    obtain ⟨fa, fd, m1, m2, m3, m4, _⟩ := hc.pr.fn g y ps f n1 n2 n3
    have m1' := hc.pr.ga g y n1
    rw [m1] at m1'
    have efa : fa = He.ga X.K y := by
      have := Option.some.inj m1'
      cases this
      rfl
    subst efa
    refine pe_we (pe_slotG (i := i) m4 hc.gu hc.room (by rw [hc.hN]; exact hi) (hc.vis hv) m2 m3 wa_pa (okNm_inv ho).1 (okNm_inv ho).2 (star_ok z.1 _ _) (stars_any z.2)) ⟨t3, ?_⟩
    have hev : evEs C (.cons a es) ρ = some (b :: ys, ρ2) := by
      show bd (evE C a ρ) _ = _
      rw [e3]
      show bd (evEs C es ρ1) _ = _
      rw [e4]
      rfl
    refine ses_cons ha hs z.1 ρ (b :: ys) ρ2 hev σ H Hf α τ R w _ fun H1 Hf1 α1 xs s1 R1 eo w1 => ?_
    obtain ⟨Hf2, s2, w2, dx⟩ := w1.freezes
    rw [eo] at dx
    obtain ⟨as, a1, a2, a3⟩ := frz_trees w2 dx
    refine ⟨Hf2, as, tr α1 ++ τ, r', [], a1, ?_, a3, ?_, fun H2 Hf3 y2 bs s3 ey eb vb w3 => ?_⟩
    · rw [← a1, List.length_map, ← os_len, a2]
      exact hc.pr.ln g f _ _ n3 e5
    · rw [a2]
      exact e5
    · cases bs with
      | nil => exact q H2 Hf3 α1 y2 ((s1.trans s2).trans s3) R1 ey w3
      | cons b bs => cases eb
end
end PF

/-! PF: built-ins of one operand (PF.P1): the least pair, the least or None, sorted(set(..)). -/
namespace PF
open PySem PySem.Spec PyProof.Rows L2
/-! ### the fold in plain words -/
theorem fold_min {α : Type} (f : α → D) (lt : α → α → Bool) (e : ∀ x y, PySem.W.dataLt (f x) (f y) = lt x y) : ∀ (xs : List α) (x : α), PySem.W.minD (f x) (xs.map f) = f (xs.foldl (fun a b => if lt b a then b else a) x)
  | [], _ => rfl
  | y :: ys, x => by
    show PySem.W.minD (if PySem.W.dataLt (f y) (f x) then f y else f x) (ys.map f) = f (ys.foldl _ (if lt y x then y else x))
    rw [e, ← fold_min f lt e ys]
    cases lt y x <;> rfl
theorem fold_max {α : Type} (f : α → D) (lt : α → α → Bool) (e : ∀ x y, PySem.W.dataLt (f x) (f y) = lt x y) : ∀ (xs : List α) (x : α), PySem.W.maxD (f x) (xs.map f) = f (xs.foldl (fun a b => if lt a b then b else a) x)
  | [], _ => rfl
  | y :: ys, x => by
    show PySem.W.maxD (if PySem.W.dataLt (f x) (f y) then f y else f x) (ys.map f) = f (ys.foldl _ (if lt x y then y else x))
    rw [e, ← fold_max f lt e ys]
    cases lt x y <;> rfl
theorem lt_pair (p q : Int × Int) : PySem.W.dataLt (pairD p) (pairD q) = ltP p q := PySem.W.dataLt_ii _ _ _ _
theorem lt_int (i j : Int) : PySem.W.dataLt (.int i) (.int j) = decide (i < j) := PySem.W.dataLt_int i j
theorem pairs_of : ∀ {ds : List D} {ps : List (Int × Int)}, pairsD ds = some ps → ds = ps.map pairD
  | [], _, h => by cases h; rfl
  | d :: ds, ps, h => by
    unfold pairsD at h
    split at h
    · rename_i e; cases e
    · rename_i e
      cases e
      obtain ⟨qs, h1, h2⟩ := b1_inv h
      cases h2
      rw [pairs_of h1]
      rfl
    · cases h
theorem ints_of : ∀ {ds : List D} {is : List Int}, intsD ds = some is → ds = is.map .int
  | [], _, h => by cases h; rfl
  | d :: ds, ps, h => by
    unfold intsD at h
    split at h
    · rename_i e; cases e
    · rename_i e
      cases e
      obtain ⟨qs, h1, h2⟩ := b1_inv h
      cases h2
      rw [ints_of h1]
      rfl
    · cases h
theorem alike_pairs (ps : List (Int × Int)) : PySem.W.AlikeAll (ps.map pairD) := by
  refine ⟨fun x hx y hy => ?_, fun x hx => ?_⟩
  · obtain ⟨p, _, rfl⟩ := List.mem_map.mp hx
    obtain ⟨q, _, rfl⟩ := List.mem_map.mp hy
    simp [pairD, PySem.W.alike, PySem.W.alikeAll]
  · obtain ⟨p, _, rfl⟩ := List.mem_map.mp hx
    intro h; cases h
theorem alike_ints (ps : List Int) : PySem.W.AlikeAll (ps.map .int) := by
  refine ⟨fun x hx y hy => ?_, fun x hx => ?_⟩
  · obtain ⟨p, _, rfl⟩ := List.mem_map.mp hx
    obtain ⟨q, _, rfl⟩ := List.mem_map.mp hy
    simp [PySem.W.alike]
  · obtain ⟨p, _, rfl⟩ := List.mem_map.mp hx
    intro h; cases h
theorem depth_all {f : α → D} {n : Nat} (h : ∀ x, (f x).depth ≤ n) : ∀ xs : List α, PyData.depthAll (xs.map f) ≤ n
  | [] => by simp [PyData.depthAll]
  | x :: xs => by
    have := depth_all h xs
    have := h x
    simp only [List.map_cons, PyData.depthAll]
    omega
theorem dpa_ix {K : PySem.W.Frag} {H : Hp} : ∀ {us : List V} {ds : List D}, L2.DpAll K H us ds → ∀ {i : Nat} {u : V}, us[i]? = some u → ∃ d, ds[i]? = some d ∧ L2.Dp K H u d
  | _, _, .nil, i, u, h => by simp at h
  | _, _, .cons a t, 0, u, h => by
    cases h
    exact ⟨_, rfl, a⟩
  | _, _, .cons a t, i + 1, u, h => dpa_ix t (i := i) h
theorem vals_at : ∀ {us : List V} {ws : List Value}, Vals us ws → ∀ {i : Nat} {w : Value}, ws[i]? = some w → ∃ u, us[i]? = some u ∧ RelV u w
  | _, _, .nil, i, w, h => by simp at h
  | _, _, .cons a t, 0, w, h => by
    cases h
    exact ⟨_, rfl, a⟩
  | _, _, .cons a t, i + 1, w, h => vals_at t (i := i) h
/-! ### the calls -/
section
variable {X : Cx}
/-- the chosen one m of the items ds, at its place -/
def rPick (K : PySem.W.Frag) (m : D → List D → D) : List V → Hp → VK → Prop := fun vs H Q => ∃ (a : Addr) (us : List V) (d : D) (ds : List D), vs = [V.ref a] ∧ SqL K H a us ∧ L2.DpAll K H us (d :: ds) ∧ PySem.W.AlikeAll (d :: ds) ∧ PyData.depthAll (d :: ds) ≤ 60 ∧
  ∀ (i : Nat) (u : V), us[i]? = some u → (d :: ds)[i]? = some (m d ds) → Q u H
theorem pick_out {pins : List (Addr × Obj)} {s : Shared} {σ : L2.St} {H : Hp} {us : List V} {its : List Value} {ds : List D} {e : D} {Q : VK} (I : Inv X pins σ H s) (rv : Vals us its) (da : L2.DpAll X.K H us ds) (q : ∀ (i : Nat) (u : V), us[i]? = some u → ds[i]? = some e → Q u H)
    {i : Nat} {v : Value} {h' : Heap} {tk : Nat} {bs : List Addr} (e1 : its.toArray[i]? = some v) (r : Reads h' v e bs) (k : ∀ b o, s.heap.get? b = some o → h'.get? b = some o) : EP X pins σ Q v { s with heap := h', toks := tk } := by
  rw [List.getElem?_toArray] at e1
  obtain ⟨u, hu, ru⟩ := vals_at rv e1
  obtain ⟨d, hd, dp⟩ := dpa_ix da hu
  obtain ⟨as, r2⟩ := L2.Dp.reads I d u v dp ru
  have z := (reads_det (fun b o e _ => k b o e) r2 r).1
  subst z
  exact ⟨u, H, I.kept k, ru, q i u hu hd⟩
theorem cr_minD (hc : X.calm = true) (hu : X.A.units + 65 < cLine) : CallR X (.builtin "min") (rPick X.K PySem.W.minD) := by
  intro pins s σ H vs us Q I r h
  obtain ⟨a, ys, d, ds, rfl, hs, da, al, hd, q⟩ := h
  obtain ⟨its, rv, hl, _⟩ := I.list hs
  obtain ⟨as, ra⟩ := L2.Dp.readsAll I _ _ its da rv
  rw [Vals.ref1 r]
  exact PySem.W.min_list_data (I.ok.hd hc) hl.isList ra al (by omega) fun i v h' tk bs e1 e2 k => pick_out I rv da q e1 e2 k
theorem cr_maxD (hc : X.calm = true) (hu : X.A.units + 65 < cLine) : CallR X (.builtin "max") (rPick X.K PySem.W.maxD) := by
  intro pins s σ H vs us Q I r h
  obtain ⟨a, ys, d, ds, rfl, hs, da, al, hd, q⟩ := h
  obtain ⟨its, rv, hl, _⟩ := I.list hs
  obtain ⟨as, ra⟩ := L2.Dp.readsAll I _ _ its da rv
  rw [Vals.ref1 r]
  exact PySem.W.max_list_data (I.ok.hd hc) hl.isList ra al (by omega) fun i v h' tk bs e1 e2 k => pick_out I rv da q e1 e2 k
/-- the same, None of no items -/
def rPickO (K : PySem.W.Frag) (m : D → List D → D) : List V → List V → Hp → VK → Prop := fun vs zs H Q => ∃ (a : Addr) (us : List V) (ds : List D), vs = [V.ref a] ∧ zs = [.non] ∧ SqL K H a us ∧ L2.DpAll K H us ds ∧ PySem.W.AlikeAll ds ∧ PyData.depthAll ds ≤ 60 ∧
  (ds = [] → Q .non H) ∧ ∀ (d : D) (es : List D), ds = d :: es → ∀ (i : Nat) (u : V), us[i]? = some u → ds[i]? = some (m d es) → Q u H
theorem cr_minO (hc : X.calm = true) (hu : X.A.units + 65 < cLine) : CallRK X (.builtin "min") [Str.ofString "default"] (rPickO X.K PySem.W.minD) := by
  intro pins s σ H vs zs us ws Q I r rz h
  obtain ⟨a, ys, ds, rfl, rfl, hs, da, al, hd, q0, q⟩ := h
  obtain ⟨its, rv, hl, _⟩ := I.list hs
  obtain ⟨as, ra⟩ := L2.Dp.readsAll I _ _ its da rv
  rw [Vals.ref1 r]
  obtain ⟨w1, rfl, e1⟩ := vals1 rz
  obtain rfl : w1 = Value.none := e1
  exact PySem.W.min_list_default (I.ok.hd hc) hl.isList ra al (by omega) (fun z h' tk k => ⟨.non, H, I.kept k, rfl, q0 z⟩) fun d es i v h' tk bs z e1 e2 k => pick_out I rv da (q d es z) e1 e2 k
theorem cr_maxO (hc : X.calm = true) (hu : X.A.units + 65 < cLine) : CallRK X (.builtin "max") [Str.ofString "default"] (rPickO X.K PySem.W.maxD) := by
  intro pins s σ H vs zs us ws Q I r rz h
  obtain ⟨a, ys, ds, rfl, rfl, hs, da, al, hd, q0, q⟩ := h
  obtain ⟨its, rv, hl, _⟩ := I.list hs
  obtain ⟨as, ra⟩ := L2.Dp.readsAll I _ _ its da rv
  rw [Vals.ref1 r]
  obtain ⟨w1, rfl, e1⟩ := vals1 rz
  obtain rfl : w1 = Value.none := e1
  exact PySem.W.max_list_default (I.ok.hd hc) hl.isList ra al (by omega) (fun z h' tk k => ⟨.non, H, I.kept k, rfl, q0 z⟩) fun d es i v h' tk bs z e1 e2 k => pick_out I rv da (q d es z) e1 e2 k
end
/-! ### set(xs) of a list of ints -/
/-- the set object without members, as it is made -/
def noSet (w : World) : Obj := { cls := .type "set", dict := none, data := .set #[] 0 (.fresh 0 0 (!w.params.followText "set-order")) }
theorem int_ix {its : Array Value} {is : List Int} (hi : IntsAre its.toList is) (n : its.size = is.length) (i : Nat) (v : Value) (hv : its[i]? = some v) : ∃ k t, is[i]? = some k ∧ v = .int k t := by
  have lt : i < is.length := n ▸ (Array.getElem?_eq_some_iff.mp hv).1
  obtain ⟨t, e⟩ := IntsAre.int_at hi i v ((Array.getElem?_toList ..).trans hv)
  refine ⟨is[i], t, List.getElem?_eq_getElem lt, e.trans ?_⟩
  rw [List.getD_eq_getElem?_getD, List.getElem?_eq_getElem lt] <;> rfl
section
variable {P : Program} {w : World} {A : Around} {E : Value → Shared → Prop} {s : Shared}
theorem set_ints {xs : Addr} {its : Array Value} (is : List Int) {Q : Value → Shared → Prop} (calm : A.handled = none) (hx : s.heap.IsList xs its) (hi : IntsAre its.toList is) (few : is.length + 1 < scanBound)
    (out : ∀ (hp : Heap) (tk c : Nat), SetR w hp s.heap.objs.size (fun j => decide (j ∈ is)) c → c ≤ is.length → (∀ b o, s.heap.get? b = some o → hp.get? b = some o) → Q (.ref s.heap.objs.size) { s with heap := hp, toks := tk }) :
    wpAny (model P w) A (call (.type "set") [.ref xs]) Q E s := by
  have size : its.size = is.length := (Array.length_toList (xs := its)).symm.trans (IntsAre.length hi)
  obtain ⟨mc, mt, a1⟩ := F.called_set.mro
  have a2 := F.called_set.made
  have a3 := F.called_set.sub
  have a4 := F.called_set.notType
  have a5 := F.called_set.canCreate
  have a6 := F.typeCall_set_1 (.ref xs)
  refine wpAny_call (codeAny_of_tree (show wpAny _ _ (callAny (.type "set") _) _ _ _ from wpAny_pure ⟨Code.quiet_builtin _ (by decide +kernel), codeAny_builtin F.entry_type_call ?_⟩))
  rw [show _ = _ from Around.under_plain (weight_type_call_type "set" [.ref xs] []) rfl]
  repeat (any_goals (first | assumption | wp_step))
  refine codeAny_mono (code_set_led1 (.ref xs) (E := E) (Q₁ := fun made s1 => made = .ref s.heap.objs.size ∧ s1 = { s with heap := s.heap.push (noSet w) }) ⟨rfl, rfl⟩) fun z s1 hz => ?_
  cases z with
  | error e => exact hz
  | ok z =>
    cases z with
    | ret made =>
      obtain ⟨e1, e2⟩ := hz
      subst e1 e2
      have new : (s.heap.push (noSet w)).get? s.heap.objs.size = some (noSet w) := Heap.get?_push_size _ rfl
      have ty : Shared.TypeIs { s with heap := s.heap.push (noSet w) } (.ref s.heap.objs.size) "set" := ⟨_, new, rfl⟩
      have b1 := F.called_set.init.lookup
      have b2 := F.called_set.init.bind (.ref s.heap.objs.size)
      repeat (any_goals (first | assumption | wp_step))
      refine codeAny_mono (codeAny_call_builtin (R := wants (fun z s2 => z = .none ∧ ∃ hp tk c, s2 = { s with heap := hp, toks := tk } ∧ SetR w hp s.heap.objs.size (fun j => decide (j ∈ is)) c ∧ c ≤ is.length ∧
          ∀ b o, s.heap.get? b = some o → hp.get? b = some o) E) F.called_set.init.plain F.entry_set_init (check_set_init_1 ty ?_)) fun z2 s2 hz2 => ?_
      · obtain ⟨⟨oc, od, ox, os⟩, g1, g2, gn, g3⟩ := hx
        simp only at g2 g3
        subst g2 g3
        have below : xs < s.heap.objs.size := Heap.lt_size g1
        have g4 : (s.heap.push (noSet w)).get? xs = some { cls := .type "list", dict := od, data := .seq its gn, slots := os } := Heap.get?_push_of_some _ g1
        have g5 : (s.heap.push (noSet w)).IsList xs its := ⟨_, g4, rfl, gn, rfl⟩
        have c1 := F.sub_list_set
        have c2 := F.sub_list_frozenset
        have c3 : (Value.type "list" == Value.type "dict") = false := by decide
        unfold Builtin.«set.__init__» noKeywords Builtin.Frozenset.updateFrom
        generalize hid : pyIter = itr
        wp_walk
        subst hid
        refine wpAny_pyIter_list g5 (wpAny_bind (wpAny_runValue ?_))
        have sz : (s.heap.push (noSet w)).objs.size = s.heap.objs.size + 1 := Heap.size_push ..
        have ne1 : xs ≠ (s.heap.push (noSet w)).objs.size := fun z => absurd (z ▸ below) (by rw [sz]; exact Nat.not_succ_lt_self)
        have ne2 : s.heap.objs.size ∉ [(s.heap.push (noSet w)).objs.size, xs] := by
          intro z
          rcases List.mem_cons.mp z with z | z
          · rw [sz] at z
            exact absurd z (Nat.ne_of_lt (Nat.lt_succ_self _))
          · exact absurd (List.mem_singleton.mp z) (Nat.ne_of_gt below)
        refine set_update_ints (Walks.list (A := A.in1.in1.in1) (by simp [calm]) _ xs ne1 its).toS _ ne2 is size few (int_ix hi size) (its.size - 0) 0 _ (by omega) (Nat.zero_le _) ⟨⟨_, Heap.get?_push_size _ rfl, rfl, rfl⟩, g5.push _⟩
          ⟨0, Nat.le_refl 0, setR_new_at (Heap.get?_push_of_some _ new)⟩ fun s3 c3 mv le R3 => ?_
        obtain ⟨hp, gs, dr, tk, os3⟩ := s3
        have d1 : gs = s.gens := mv.gens
        have d2 : dr = s.drawn := mv.drawn
        have d3 : os3 = s.os := mv.os
        subst d1 d2 d3
        refine wpAny_pure (show wpAny _ _ (ret Value.none) _ _ _ from ?_)
        refine wpAny_pure ⟨rfl, hp, tk, c3, rfl, R3, size ▸ le, fun b o e => ?_⟩
        have lt : b < s.heap.objs.size := Heap.lt_size e
        refine mv.heap b o (fun z => ?_) (Heap.get?_push_of_some _ (Heap.get?_push_of_some _ e))
        rcases List.mem_cons.mp z with z | z
        · exact absurd z (Nat.ne_of_lt lt)
        · have := List.mem_singleton.mp z
          rw [sz] at this
          exact absurd this (Nat.ne_of_lt (Nat.lt_succ_of_lt lt))
      · cases z2 with
        | error e => exact hz2
        | ok z2 =>
          cases z2 with
          | ret v =>
            obtain ⟨e1, hp, tk, c, e2, R2, le, keep⟩ := hz2
            subst e1 e2
            repeat (any_goals (first | assumption | wp_step))
            exact out _ _ _ R2 le keep
          | _ => exact hz2.elim
    | _ => exact hz.elim
end
end PF

/-! PF: sorted(set(xs)) of a list of one text. -/
namespace PF
open PySem PySem.Spec PyProof.Rows L2
/-- the set of one text -/
def SetS (w : World) (h : Heap) (a : Addr) (x : Str) : Prop :=
  ∃ ob mem epo tab, h.get? a = some ob ∧ ob.ExactSet ∧ ob.data = .set mem epo tab ∧ (∃ n u, mem.toList = [(n, Value.str x u)]) ∧ tab.fits mem.size = true ∧ Ris tab.place.toList ∧ (w.params.followText "set-order" = true ∨ tab.led = true)
theorem SetS.to {w : World} {h h2 : Heap} {a : Addr} {x : Str} (R : SetS w h a x) (k : ∀ o, h.get? a = some o → h2.get? a = some o) : SetS w h2 a x := by
  obtain ⟨ob, mem, epo, tab, at1, r⟩ := R
  exact ⟨ob, mem, epo, tab, k ob at1, r⟩
theorem perm_one {α : Type} {l : List α} {y : α} (h : l.Perm [y]) : l = [y] := List.perm_singleton.mp h
section
variable {P : Program} {w : World} {A : Around} {E : Value → Shared → Prop} {s : Shared} {a : Addr}
theorem tail_one {g : Bool → Sem Unit} (hg : ∀ (b : Bool) (z : Shared) (K : Unit → Shared → Prop), K () z → wpAny (model P w) A (g b) K E z)
    {ob : Obj} {mem : Array (Int × Value)} {epo : Nat} {tab : SetTable} (at1 : s.heap.get? a = some ob) (ex1 : ob.ExactSet) (dat : ob.data = .set mem epo tab)
    {m1 : Array (Int × Value)} {t2 : SetTable} {x : Str} {n : Int} {u : Tok} (em : m1.toList = [(n, Value.str x u)]) (fit : t2.fits m1.size = true) (ris : Ris t2.place.toList) (led : w.params.followText "set-order" = true ∨ t2.led = true)
    {wd : Bool} {R : Option Bool → Shared → Prop} (out : ∀ hp, Heap.SameBut a s.heap hp → SetS w hp a x → R (some true) { s with heap := hp }) :
    wpAny (model P w) A (do
        storeSet a m1 t2
        if (!wd && t2.tooFull) = true then do
            g (relayAll t2 m1 (SetTable.grown m1.size)).2.2
            storeSet a (relayAll t2 m1 (SetTable.grown m1.size)).1 (relayAll t2 m1 (SetTable.grown m1.size)).2.1
            pure (some true)
          else pure (some true)) R E s := by
  have one1 : m1.size = 1 := by rw [← Array.length_toList, em]; rfl
  have few : m1.size < scanBound := by rw [one1]; decide
  refine wpAny_bind (wpAny_storeSet_of at1 dat ?_ (fits_of_scanBound few))
  have at2 := store_at (es' := m1) (t' := t2) at1 dat
  have same1 := Heap.SameBut.update s.heap a (Obj.putSet m1 t2)
  split
  · have p1 := relayAll_perm t2 m1 (SetTable.grown m1.size)
    have p2 := relayAll_fits t2 m1 (SetTable.grown m1.size)
    have p3 := relayAll_ris t2 m1 (SetTable.grown m1.size)
    have p4 := relayAll_led t2 m1 (SetTable.grown m1.size)
    generalize relayAll t2 m1 (SetTable.grown m1.size) = Y at p1 p2 p3 p4 ⊢
    obtain ⟨m2, t3, gw⟩ := Y
    dsimp only at p1 p2 p3 p4 ⊢
    rw [em] at p1
    have em2 := perm_one p1
    have one2 : m2.size = 1 := by rw [← Array.length_toList, em2]; rfl
    refine wpAny_bind (hg _ _ _ (wpAny_bind (wpAny_storeSet_of at2 rfl ?_ (fits_of_scanBound (by rw [one2]; decide)))))
    refine wpAny_pure (out _ (same1.trans (Heap.SameBut.update _ a _)) ?_)
    exact ⟨_, m2, _, t3, store_at (es' := m2) (t' := t3) at2 rfl, ex1, rfl, ⟨n, u, em2⟩, p2, p3, led.imp id fun z => p4 ▸ z⟩
  · exact wpAny_pure (out _ same1 ⟨_, m1, _, t2, at2, ex1, rfl, ⟨n, u, em⟩, fit, ris, led⟩)
theorem led_new (w : World) : w.params.followText "set-order" = true ∨ (!w.params.followText "set-order") = true := by
  cases w.params.followText "set-order"
  · exact .inr rfl
  · exact .inl rfl
theorem add_text {x : Str} {tk : Tok} {Q : Bool → Shared → Prop} (at1 : s.heap.get? a = some (noSet w)) (out : ∀ hp, Heap.SameBut a s.heap hp → SetS w hp a x → Q true { s with heap := hp }) :
    wpAny (model P w) A (setAddHashed a (.str x tk) ((strKind P w).hash x)) Q E s := by
  have scan : (Value.str x tk).scannable = true := rfl
  have ex1 : (noSet w).ExactSet := ⟨rfl, rfl, rfl⟩
  have none1 : ElemsOf (strKind P w) (#[] : Array (Int × Value)).toList := fun e he => by cases he
  have z0 : (SetTable.fresh 0 0 (!w.params.followText "set-order")).fits (#[] : Array (Int × Value)).size = true := rfl
  unfold setAddHashed setAddHashedIn
  refine wpAny_holding (wpAny_bind (wpAny_setState_of at1 rfl z0 ?_))
  dsimp only
  rw [byScan_of scan (by decide) none1]
  simp only [↓reduceIte]
  unfold setAddByScan
  refine wpAny_bind (wpAny_bind (wpAny_rule (wpAny_bind (wpAny_setScan_of (strKind_is _ _ _ _) at1 rfl z0 none1 ?_))))
  have nothing : List.findIdx? (fun e => (strKind P w).is x e.2) (#[] : Array (Int × Value)).toList = none := rfl
  rw [nothing]
  dsimp only
  have way : ∀ (b : Bool) {z : Shared} {K : Unit → Shared → Prop}, K () z → wpAny (model P w) A (match b with | true => rule "set.scan.the-table-gave-way" | false => pure ()) K E z :=
    fun b z K q => by cases b with
      | true => exact wpAny_rule q
      | false => exact wpAny_pure q
  have p1 := layNew_perm (SetTable.fresh 0 0 (!w.params.followText "set-order")) #[] ((strKind P w).hash x) (.str x tk)
  have p2 := layNew_fits (SetTable.fresh 0 0 (!w.params.followText "set-order")) #[] ((strKind P w).hash x) (.str x tk)
  have p3 := layNew_ris (SetTable.fresh 0 0 (!w.params.followText "set-order")) #[] ((strKind P w).hash x) (.str x tk) List.Pairwise.nil
  have p4 := layNew_led (SetTable.fresh 0 0 (!w.params.followText "set-order")) #[] ((strKind P w).hash x) (.str x tk)
  generalize layNew (SetTable.fresh 0 0 (!w.params.followText "set-order")) #[] ((strKind P w).hash x) (.str x tk) = Y at p1 p2 p3 p4 ⊢
  obtain ⟨m1, t1, wd, gw⟩ := Y
  dsimp only at p1 p2 p3 p4 ⊢
  have em : m1.toList = [((strKind P w).hash x, Value.str x tk)] := perm_one p1
  have led : w.params.followText "set-order" = true ∨ t1.led = true := (led_new w).imp id fun z => p4 ▸ z
  refine wpAny_bind (way _ ?_)
  split
  · refine wpAny_bind ?_
    rw [hashByValue_scannable 8 scan]
    refine wpAny_pure ?_
    refine tail_one ?_ at1 ex1 rfl em ?_ ?_ ?_ ?_
    · intro b z K q
      cases b with
      | true => exact wpAny_rule q
      | false => exact wpAny_pure q
    · first | exact p2 | (split <;> first | exact p2 | exact SetTable.fits_plain_off p2)
    · first | exact p3 | (split <;> exact p3)
    · first | exact led | (split <;> exact led)
    · intro hp sb r
      dsimp only
      exact wpAny_pure (out hp sb r)
  · refine wpAny_bind (wpAny_pure ?_)
    simp only [↓reduceIte]
    refine tail_one ?_ at1 ex1 rfl em p2 p3 led ?_
    · intro b z K q
      cases b with
      | true => exact wpAny_rule q
      | false => exact wpAny_pure q
    · intro hp sb r
      dsimp only
      exact wpAny_pure (out hp sb r)
theorem loop_one {I : Addr} {fp wr : List Addr} {G : Array GenState → Array GenState → Prop} {Pv : Nat → Value → Prop} {St : Nat → Shared → Prop} {R : Result → Shared → Prop} (W : WalksS P w A.in1 I fp wr G 1 Pv St) (S : Addr) (out1 : S ∉ fp) (x : Str)
    (hv : ∀ v, Pv 0 v → ∃ t, v = .str x t) (s : Shared) (st : St 0 s) (at1 : s.heap.get? S = some (noSet w)) (fin : ∀ z, Moved (S :: wr) G s z → SetS w z.heap S x → R (.ok (.ret .none)) z) :
    codeAny (model P w) A (.builtin "set.update.loop" ⟨[.ref S, .ref I], []⟩) R s := by
  have out2 : S ∉ wr := fun z => out1 (W.sub _ z)
  have mon : ∀ b ∈ wr, b ∈ S :: wr := fun b z => List.mem_cons_of_mem _ z
  refine codeAny_builtin F.entry_set_update_loop ?_
  rw [show _ = _ from Around.under_plainId F.plain_set_update_loop _]
  refine (show wpAny _ A.in1 (pyNext (.ref I) >>= _) _ _ s from wpAny_bind (W.item 0 s _ _ Nat.one_pos st fun v z1 pv st1 mv => ?_))
  obtain ⟨t, rfl⟩ := hv v pv
  have at2 : z1.heap.get? S = some (noSet w) := mv.heap S _ out2 at1
  refine (show wpAny _ A.in1 (holding [Value.str x t] (setAdd S (.str x t)) >>= _) _ _ z1 from wpAny_bind (wpAny_holding ?_))
  unfold setAdd
  refine wpAny_holding (wpAny_bind ((strKind P w).pyHash (k := x) (strKind_is _ _ _ _) ?_))
  refine add_text (s := { z1 with toks := z1.toks + 1 }) at2 fun hp sb S2 => ?_
  have off : ∀ b : Addr, b ≠ S → hp.get? b = z1.heap.get? b := fun b hb => sb.2 b hb
  refine wpAny_pure ⟨plainId_quiet F.plain_set_update_loop _, ?_⟩
  refine codeAny_builtin F.entry_set_update_loop ?_
  rw [show _ = _ from Around.under_plainId F.plain_set_update_loop _]
  have st2 := W.frame 1 z1 hp (z1.toks + 1) st1 (Nat.le_succ _) fun b hb o e => (off b fun z => out1 (z ▸ hb)).trans e
  refine (show wpAny _ A.in1 (pyNext (.ref I) >>= _) _ _ _ from wpAny_bind (W.done _ _ _ st2 fun z2 mv2 => ?_))
  refine (show wpAny _ A.in1 (ret Value.none) _ _ z2 from wpAny_pure (fin z2 ?_ (S2.to fun o e => mv2.heap S o out2 e)))
  refine Moved.trans W.gtrans ((mv.mono mon).then_heap (Nat.le_succ _) fun b o hb e => ?_) (mv2.mono mon)
  exact (off b fun z => hb (z ▸ List.mem_cons_self)).trans e
theorem set_text {xs : Addr} {v0 : Value} {x : Str} {t0 : Tok} {Q : Value → Shared → Prop} (calm : A.handled = none) (hx : s.heap.IsList xs #[v0]) (hv0 : v0 = .str x t0)
    (out : ∀ (hp : Heap) (tk : Nat), SetS w hp s.heap.objs.size x → (∀ b o, s.heap.get? b = some o → hp.get? b = some o) → Q (.ref s.heap.objs.size) { s with heap := hp, toks := tk }) :
    wpAny (model P w) A (call (.type "set") [.ref xs]) Q E s := by
  obtain ⟨mc, mt, a1⟩ := F.called_set.mro
  have a2 := F.called_set.made
  have a3 := F.called_set.sub
  have a4 := F.called_set.notType
  have a5 := F.called_set.canCreate
  have a6 := F.typeCall_set_1 (.ref xs)
  refine wpAny_call (codeAny_of_tree (show wpAny _ _ (callAny (.type "set") _) _ _ _ from wpAny_pure ⟨Code.quiet_builtin _ (by decide +kernel), codeAny_builtin F.entry_type_call ?_⟩))
  rw [show _ = _ from Around.under_plain (weight_type_call_type "set" [.ref xs] []) rfl]
  repeat (any_goals (first | assumption | wp_step))
  refine codeAny_mono (code_set_led1 (.ref xs) (E := E) (Q₁ := fun made s1 => made = .ref s.heap.objs.size ∧ s1 = { s with heap := s.heap.push (noSet w) }) ⟨rfl, rfl⟩) fun z s1 hz => ?_
  cases z with
  | error e => exact hz
  | ok z =>
    cases z with
    | ret made =>
      obtain ⟨e1, e2⟩ := hz
      subst e1 e2
      have new : (s.heap.push (noSet w)).get? s.heap.objs.size = some (noSet w) := Heap.get?_push_size _ rfl
      have ty : Shared.TypeIs { s with heap := s.heap.push (noSet w) } (.ref s.heap.objs.size) "set" := ⟨_, new, rfl⟩
      have b1 := F.called_set.init.lookup
      have b2 := F.called_set.init.bind (.ref s.heap.objs.size)
      repeat (any_goals (first | assumption | wp_step))
      refine codeAny_mono (codeAny_call_builtin (R := wants (fun z s2 => z = .none ∧ ∃ hp tk, s2 = { s with heap := hp, toks := tk } ∧ SetS w hp s.heap.objs.size x ∧
          ∀ b o, s.heap.get? b = some o → hp.get? b = some o) E) F.called_set.init.plain F.entry_set_init (check_set_init_1 ty ?_)) fun z2 s2 hz2 => ?_
      · obtain ⟨⟨oc, od, ox, os⟩, g1, g2, gn, g3⟩ := hx
        simp only at g2 g3
        subst g2 g3
        have below : xs < s.heap.objs.size := Heap.lt_size g1
        have g4 : (s.heap.push (noSet w)).get? xs = some { cls := .type "list", dict := od, data := .seq #[v0] gn, slots := os } := Heap.get?_push_of_some _ g1
        have g5 : (s.heap.push (noSet w)).IsList xs #[v0] := ⟨_, g4, rfl, gn, rfl⟩
        have c1 := F.sub_list_set
        have c2 := F.sub_list_frozenset
        have c3 : (Value.type "list" == Value.type "dict") = false := by decide
        unfold Builtin.«set.__init__» noKeywords Builtin.Frozenset.updateFrom
        generalize hid : pyIter = itr
        wp_walk
        subst hid
        refine wpAny_pyIter_list g5 (wpAny_bind (wpAny_runValue ?_))
        have sz : (s.heap.push (noSet w)).objs.size = s.heap.objs.size + 1 := Heap.size_push ..
        have ne1 : xs ≠ (s.heap.push (noSet w)).objs.size := fun z => absurd (z ▸ below) (by rw [sz]; exact Nat.not_succ_lt_self)
        have ne2 : s.heap.objs.size ∉ [(s.heap.push (noSet w)).objs.size, xs] := by
          intro z
          rcases List.mem_cons.mp z with z | z
          · rw [sz] at z
            exact absurd z (Nat.ne_of_lt (Nat.lt_succ_self _))
          · exact absurd (List.mem_singleton.mp z) (Nat.ne_of_gt below)
        refine loop_one (Walks.list (A := A.in1.in1.in1) (by simp [calm]) _ xs ne1 #[v0]).toS _ ne2 x (fun v hv => ⟨t0, (Option.some.inj (show some v0 = some v from hv)).symm.trans hv0⟩) _ ⟨⟨_, Heap.get?_push_size _ rfl, rfl, rfl⟩, g5.push _⟩
          (Heap.get?_push_of_some _ new) fun s3 mv R3 => ?_
        obtain ⟨hp, gs, dr, tk, os3⟩ := s3
        have d1 : gs = s.gens := mv.gens
        have d2 : dr = s.drawn := mv.drawn
        have d3 : os3 = s.os := mv.os
        subst d1 d2 d3
        refine wpAny_pure (show wpAny _ _ (ret Value.none) _ _ _ from ?_)
        refine wpAny_pure ⟨rfl, hp, tk, rfl, R3, fun b o e => ?_⟩
        have lt : b < s.heap.objs.size := Heap.lt_size e
        refine mv.heap b o (fun z => ?_) (Heap.get?_push_of_some _ (Heap.get?_push_of_some _ e))
        rcases List.mem_cons.mp z with z | z
        · exact absurd z (Nat.ne_of_lt lt)
        · have := List.mem_singleton.mp z
          rw [sz] at this
          exact absurd this (Nat.ne_of_lt (Nat.lt_succ_of_lt lt))
      · cases z2 with
        | error e => exact hz2
        | ok z2 =>
          cases z2 with
          | ret v =>
            obtain ⟨e1, hp, tk, e2, R2, keep⟩ := hz2
            subst e1 e2
            repeat (any_goals (first | assumption | wp_step))
            exact out _ _ R2 keep
          | _ => exact hz2.elim
    | _ => exact hz.elim
theorem sort_text {b : Addr} {x : Str} {Q : Value → Shared → Prop} (r : SetS w s.heap b x) (calm : A.handled = none)
    (out : ∀ (t : Shared) (q : Addr) (u : Tok) (c : Nat), (∀ x o, s.heap.get? x = some o → t.heap.get? x = some o) → t.gens = s.gens → t.os = s.os → s.heap.objs.size ≤ q →
      t.heap.get? q = some (seqObj "list" #[.str x u] c) → Q (.ref q) t) :
    wpAny (model P w) A (call (.builtin "sorted") [.ref b]) Q E s := by
  obtain ⟨ob, mem, epo, tab, at1, ex1, dat, ⟨n, u, em⟩, fit, ris, led⟩ := r
  have one1 : mem.size = 1 := by rw [← Array.length_toList, em]; rfl
  apply Calls.call_function_entry kind_sorted plain_sorted entry_sorted (args_sorted1 _)
  unfold Builtin.«sorted»
  apply wpAny_bind (m := checkCount "sorted" 1 1 _)
  apply wpAny_pure
  refine wpAny_bind (collect_set (A := A.in1) calm ⟨ob, at1, ex1.1, dat⟩ fit (by rw [one1]; decide) ris led fun t us old grow ge os' pm => ?_)
  rw [em] at pm
  have eu : us = [.str x u] := perm_one pm
  subst eu
  refine wpAny_bind (wpAny_newList ?_ (show 1 ≤ sizeLine by decide))
  have atL : (t.heap.push (seqObj "list" [Value.str x u].toArray 0)).get? t.heap.objs.size = some (seqObj "list" [Value.str x u].toArray 0) := Heap.get?_push_size _ rfl
  refine wpAny_bind (wpAny_holding (wpAny_call_entry slot_list_sort ⟨_, atL, rfl⟩ entry_list_sort (SrtO.list_sort_ord SrtO.swo_int atL (show 1 ≤ sizeLine by decide) (fun h2 => absurd h2 (show ¬ 2 ≤ 1 by decide)) fun zs sd sb => ⟨_, rfl, ?_⟩) (args_list_sort _)))
  have ez : zs = [.str x u] := perm_one sb.1
  subst ez
  obtain ⟨c, hc⟩ := sortedHeap_at (vs := [Value.str x u]) (out := [Value.str x u].toArray) atL
  refine wpAny_pure ⟨_, rfl, out _ t.heap.objs.size u c (fun y o e => ?_) ge os' grow hc⟩
  have q := old y o e
  have lt := Heap.lt_size q
  show (sortedHeap (t.heap.push (seqObj "list" [Value.str x u].toArray 0)) t.heap.objs.size [Value.str x u] [Value.str x u].toArray).get? y = some o
  rw [sortedHeap_old (Nat.ne_of_lt lt) (by rw [size_push']; exact Nat.lt_succ_of_lt lt)]
  exact Heap.get?_push_of_some _ q
end
/-! in the layer -/
def SetSO (w : World) (a : Addr) (x : Str) : HO := .ext fun h => SetS w h a x
section
variable {X : Cx}
def rSetT (K : PySem.W.Frag) (w : World) : List V → Hp → VK → Prop := fun vs H Q => ∃ (a : Addr) (x : Str), vs = [V.ref a] ∧ SqL K H a [V.str x] ∧ ∀ p : Addr, H p = none → Q (.ref p) (upd H p (SetSO w p x))
theorem cr_setT (hc : X.calm = true) : CallR X (.type "set") (rSetT X.K X.w) := by
  intro pins s σ H vs us Q I r h
  obtain ⟨a, x, rfl, hs, q⟩ := h
  obtain ⟨its, rv, hl, _⟩ := I.list hs
  rw [Vals.ref1 r]
  obtain ⟨v0, rfl, t0, e0⟩ := vals1 rv
  refine set_text (I.ok.hd hc) hl.isList e0 fun hp tk R k => ?_
  have ⟨o, _, _, _, ho, _⟩ := R
  have ok : ObjOk X.prog X.w (upd H s.heap.objs.size (SetSO X.w s.heap.objs.size x)) hp s.heap.objs.size (SetSO X.w s.heap.objs.size x) := ⟨R, ⟨o, ho⟩, fun h1 h2 p k => SetS.to p k⟩
  exact ⟨.ref _, upd H s.heap.objs.size (SetSO X.w s.heap.objs.size x), I.laid (t' := tk) k (Nat.le_refl _) ok, rfl, q _ (I.hok.fresh (Nat.le_refl _))⟩
def rSortT (w : World) : List V → Hp → VK → Prop := fun vs H Q => ∃ (b : Addr) (x : Str), vs = [V.ref b] ∧ H b = some (SetSO w b x) ∧ ∀ q : Addr, H q = none → Q (.ref q) (upd H q (.lst [V.str x]))
theorem cr_sortT (hc : X.calm = true) : CallR X (.builtin "sorted") (rSortT X.w) := by
  intro pins s σ H vs us Q I r h
  obtain ⟨b, x, rfl, hb, go⟩ := h
  rw [Vals.ref1 r]
  have R : SetS X.w s.heap b x := (I.hok b _ hb).1
  refine sort_text R (I.ok.hd hc) fun t q u c old ge eo grow at2 => ?_
  have free : H q = none := I.hok.fresh grow
  have J : Inv X pins σ (upd H q (.lst [V.str x])) { s with heap := t.heap, gens := t.gens, drawn := t.drawn, toks := t.toks } :=
    I.call (ch := []) (Un.laid old grow free) (I.hok.laid old grow ⟨(show 1 ≤ sizeLine by decide), [.str x u], c, .cons ⟨u, rfl⟩ .nil, at2⟩) (by rw [ge]; exact I.bare) (fun _ z => nomatch z)
  obtain ⟨th, tg, td, tt, to⟩ := t
  have eo : to = s.os := eo
  subst eo
  exact ⟨.ref q, _, J, rfl, go q free⟩
end
end PF

/-! PF: built-ins of one operand, joined with the evaluator. -/
namespace PF
open PySem PySem.Spec PyProof.Rows L2
section
variable {X : Cx}
def rSetI (K : PySem.W.Frag) (w : World) : List V → Hp → VK → Prop := fun vs H Q => ∃ (a : Addr) (is : List Int), vs = [V.ref a] ∧ SqL K H a (is.map V.int) ∧ is.length < 4000 ∧
  ∀ (p : Addr) (c : Nat), H p = none → c ≤ is.length → Q (.ref p) (upd H p (SetO w p (fun j => decide (j ∈ is)) c))
theorem cr_setI (hc : X.calm = true) : CallR X (.type "set") (rSetI X.K X.w) := by
  intro pins s σ H vs us Q I r h
  obtain ⟨a, is, rfl, hs, few, q⟩ := h
  obtain ⟨its, rv, hl, _⟩ := I.list hs
  rw [Vals.ref1 r]
  refine set_ints is (I.ok.hd hc) hl.isList rv.ints (by unfold scanBound; omega) fun hp tk c R le k => ?_
  exact ⟨.ref _, upd H s.heap.objs.size (SetO X.w s.heap.objs.size (fun j => decide (j ∈ is)) c), I.laid (t' := tk) k (Nat.le_refl _) (setO_new R), rfl, q _ c (I.hok.fresh (Nat.le_refl _)) le⟩
end
/-! sorted(set), of any number of members that a set may have here -/
section
variable {P : Program} {w : World} {A : Around} {E : Value → Shared → Prop} {s : Shared} {b : Addr}
theorem raw_ints (us : List Value) (h : ∀ u ∈ us, ∃ i t, u = Value.int i t) : IntsAre us (us.map Builtin.Re.reRawOf) := by
  induction us with
  | nil => exact .nil
  | cons u us ih =>
    obtain ⟨i, t, e⟩ := h u List.mem_cons_self
    subst e
    exact .cons i t (ih fun x hx => h x (List.mem_cons_of_mem _ hx))
theorem sort_many {M : Int → Bool} {k : Nat} {Q : Value → Shared → Prop} (r : SetR w s.heap b M k) (calm : A.handled = none)
    (out : ∀ (t : Shared) (q : Addr) (zs : Array Value) (c : Nat) (is : List Int), (∀ x o, s.heap.get? x = some o → t.heap.get? x = some o) → t.gens = s.gens → t.os = s.os → s.heap.objs.size ≤ q →
      t.heap.get? q = some (seqObj "list" zs c) → IntsAre zs.toList is → is.Pairwise (· < ·) → (∀ i, i ∈ is ↔ M i = true) → is.length = k → Q (.ref q) t) :
    wpAny (model P w) A (call (.builtin "sorted") [.ref b]) Q E s := by
  obtain ⟨ob, mem, epo, tab, at1, ex1, dat, good, dist, isin, small, fit, many, ris, led⟩ := r
  apply Calls.call_function_entry kind_sorted plain_sorted entry_sorted (args_sorted1 _)
  unfold Builtin.«sorted»
  apply wpAny_bind (m := checkCount "sorted" 1 1 _)
  apply wpAny_pure
  refine wpAny_bind (collect_set (A := A.in1) calm ⟨ob, at1, ex1.1, dat⟩ fit small ris led fun t us old grow ge os' pm => ?_)
  have lu : us.length = k := (pm.length_eq.trans (List.length_map _)).trans ((Array.length_toList).trans many)
  have iu : IntsAre us (us.map Builtin.Re.reRawOf) := raw_ints us fun u hu => by
    obtain ⟨x, hx, e⟩ := List.mem_map.mp (pm.mem_iff.mp hu)
    obtain ⟨i, t, h1, _⟩ := good x hx
    exact ⟨i, t, e ▸ h1⟩
  have pk : (us.map Builtin.Re.reRawOf).Perm (mem.toList.map keyOf) := by
    have z := pm.map Builtin.Re.reRawOf
    rwa [List.map_map] at z
  have le1 : us.length ≤ sizeLine := by
    unfold scanBound at small
    rw [lu, ← many, sizeLine_eq]
    omega
  refine wpAny_bind (wpAny_newList ?_ le1)
  have atL : (t.heap.push (seqObj "list" us.toArray 0)).get? t.heap.objs.size = some (seqObj "list" us.toArray 0) := Heap.get?_push_size _ rfl
  refine wpAny_bind (wpAny_holding (wpAny_call_entry slot_list_sort ⟨_, atL, rfl⟩ entry_list_sort (SrtO.list_sort_ord SrtO.swo_int atL le1 (fun h2 => SrtO.ints_sortable iu h2) fun zs sd sb => ⟨_, rfl, ?_⟩) (args_list_sort _)))
  obtain ⟨i1, i2, i3⟩ := SrtO.ints_out iu sd sb
  obtain ⟨c, hc⟩ := sortedHeap_at (vs := us) (out := zs.toArray) atL
  have pn := i2.trans pk
  refine wpAny_pure ⟨_, rfl, out _ t.heap.objs.size zs.toArray c (zs.map SrtO.iv) (fun x o e => ?_) ge os' grow hc i1 (lt_of_le_nodup _ i3 (pn.nodup_iff.mpr dist)) (fun i => pn.mem_iff.trans (isin i).symm) ?_⟩
  · have q := old x o e
    have lt := Heap.lt_size q
    show (sortedHeap (t.heap.push (seqObj "list" us.toArray 0)) t.heap.objs.size us zs.toArray).get? x = some o
    rw [sortedHeap_old (Nat.ne_of_lt lt) (by rw [size_push']; exact Nat.lt_succ_of_lt lt)]
    exact Heap.get?_push_of_some _ q
  · exact (pn.length_eq.trans (List.length_map _)).trans ((Array.length_toList).trans many)
end
section
variable {X : Cx}
def rSortMany (w : World) : List V → Hp → VK → Prop := fun vs H Q => ∃ (b : Addr) (M : Int → Bool) (k : Nat), vs = [V.ref b] ∧ H b = some (SetO w b M k) ∧ k < 4096 ∧
  ∀ (is : List Int) (q : Addr), is.Pairwise (· < ·) → (∀ i : Int, i ∈ is ↔ M i = true) → is.length = k → H q = none → Q (.ref q) (upd H q (.lst (is.map V.int)))
theorem cr_sortMany (hc : X.calm = true) : CallR X (.builtin "sorted") (rSortMany X.w) := by
  intro pins s σ H vs us Q I r h
  obtain ⟨b, M, k, rfl, hb, hk, go⟩ := h
  rw [Vals.ref1 r]
  refine sort_many (setO_get I hb) (I.ok.hd hc) fun t q zs c is old ge eo grow at2 iz asc isin len => ?_
  have free : H q = none := I.hok.fresh grow
  have fits : (is.map V.int).length ≤ sizeLine := by rw [List.length_map, len, sizeLine_eq]; omega
  have J : Inv X pins σ (upd H q (.lst (is.map V.int))) { s with heap := t.heap, gens := t.gens, drawn := t.drawn, toks := t.toks } :=
    I.call (ch := []) (Un.laid old grow free) (I.hok.laid old grow ⟨fits, zs.toList, c, vals_of_ints iz, at2⟩) (by rw [ge]; exact I.bare) (fun _ z => nomatch z)
  obtain ⟨th, tg, td, tt, to⟩ := t
  have eo : to = s.os := eo
  subst eo
  exact ⟨.ref q, _, J, rfl, go is q asc isin len free⟩
end
/-- an object that nobody looks at -/
theorem WR.idle {K : PySem.W.Frag} {Hf H : Hp} {T : List OA} {p : Addr} {o : HO} (w : WR K Hf H T) (n : H p = none) : WR K Hf (upd H p o) T := by
  obtain ⟨nf, np⟩ := w.fresh n
  exact ⟨same_updR w.sub nf, OA.oks_stay (Same.refl _) w.ok fun a ha => ⟨upd_ne fun e => np (e ▸ ha), (OA.oks_some w.ok a ha).2⟩, w.nd⟩
/-! ### the members, ascending -/
theorem insI_mem (i k : Int) : ∀ js : List Int, k ∈ insI i js ↔ k = i ∨ k ∈ js
  | [] => by simp [insI]
  | j :: js => by
    unfold insI
    split
    · simp
    · split
      · rename_i e; subst e; simp
      · simp only [List.mem_cons, insI_mem i k js]
        constructor
        · rintro (h | h | h) <;> simp [h]
        · rintro (h | h | h) <;> simp [h]
theorem insI_asc (i : Int) : ∀ js : List Int, js.Pairwise (· < ·) → (insI i js).Pairwise (· < ·)
  | [], _ => by simp [insI]
  | j :: js, h => by
    have h1 : ∀ {z : Int}, z ∈ js → j < z := fun hz => List.rel_of_pairwise_cons h hz
    have h2 := h.of_cons
    unfold insI
    split
    · rename_i lt
      refine List.pairwise_cons.mpr ⟨fun k hk => ?_, h⟩
      rcases List.mem_cons.mp hk with e | e
      · omega
      · have := h1 e; omega
    · split
      · exact h
      · refine List.pairwise_cons.mpr ⟨fun k hk => ?_, insI_asc i js h2⟩
        rcases (insI_mem i k js).mp hk with e | e
        · omega
        · exact h1 e
theorem setI_mem (k : Int) : ∀ is : List Int, k ∈ setI is ↔ k ∈ is
  | [] => by simp [setI]
  | i :: is => by
    show k ∈ insI i (setI is) ↔ _
    rw [insI_mem, setI_mem k is, List.mem_cons]
theorem setI_asc : ∀ is : List Int, (setI is).Pairwise (· < ·)
  | [] => List.Pairwise.nil
  | i :: is => insI_asc i _ (setI_asc is)
theorem asc_one : ∀ {a b : List Int}, a.Pairwise (· < ·) → b.Pairwise (· < ·) → (∀ k, k ∈ a ↔ k ∈ b) → a = b
  | [], [], _, _, _ => rfl
  | [], y :: b, _, _, h => absurd ((h y).mpr List.mem_cons_self) List.not_mem_nil
  | x :: a, [], _, _, h => absurd ((h x).mp List.mem_cons_self) List.not_mem_nil
  | x :: a, y :: b, ha, hb, h => by
    have a1 : ∀ z ∈ a, x < z := fun z hz => List.rel_of_pairwise_cons ha hz
    have b1 : ∀ z ∈ b, y < z := fun z hz => List.rel_of_pairwise_cons hb hz
    have e : x = y := by
      rcases List.mem_cons.mp ((h x).mp List.mem_cons_self) with e | e
      · exact e
      · rcases List.mem_cons.mp ((h y).mpr List.mem_cons_self) with e2 | e2
        · exact e2.symm
        · have := b1 _ e; have := a1 _ e2; omega
    subst e
    have := asc_one ha.of_cons hb.of_cons fun k => by
      constructor
      · intro hk
        rcases List.mem_cons.mp ((h k).mp (List.mem_cons_of_mem _ hk)) with e | e
        · have := a1 k hk; omega
        · exact e
      · intro hk
        rcases List.mem_cons.mp ((h k).mpr (List.mem_cons_of_mem _ hk)) with e | e
        · have := b1 k hk; omega
        · exact e
    rw [this]
theorem intV {K : PySem.W.Frag} {H : Hp} : ∀ {us : List V} {is : List Int}, DpAll K H us (is.map .int) → us = is.map V.int
  | _, [], .nil => rfl
  | _, i :: is, .cons a t => by rw [dp_int a, intV t]; rfl
theorem intDp {K : PySem.W.Frag} {H : Hp} : ∀ is : List Int, DpAll K H (is.map V.int) (is.map .int)
  | [] => .nil
  | i :: is => .cons (.int i) (intDp is)
/-! ### the shapes -/
def x1C (nm : Str) (sc : Scope) : Expr → Option Expr
  | .Call (.Name x _) [e] [] _ => if (decide (x = nm) && glC sc nm && kindOk e) = true then some e else none
  | _ => none
theorem x1C_inv {nm : Str} {sc : Scope} {e x : Expr} (h : x1C nm sc e = some x) : ∃ p pos, e = .Call (.Name nm p) [x] [] pos ∧ glC sc nm = true ∧ kindOk x = true := by
  unfold x1C at h
  split at h
  · split at h
    · rename_i y p e pos hb
      cases h
      simp only [Bool.and_eq_true, decide_eq_true_eq] at hb
      obtain ⟨⟨rfl, h2⟩, h3⟩ := hb
      exact ⟨p, pos, rfl, h2, h3⟩
    · cases h
  · cases h
def xDf (nm : Str) (sc : Scope) : Expr → Option Expr
  | .Call (.Name x _) [e] [⟨some k, .Constant .none _ _, _⟩] _ => if (decide (x = nm) && decide (k = Str.ofString "default") && glC sc nm && kindOk e) = true then some e else none
  | _ => none
theorem xDf_inv {nm : Str} {sc : Scope} {e x : Expr} (h : xDf nm sc e = some x) : ∃ p pos j q r, e = .Call (.Name nm p) [x] [⟨some (Str.ofString "default"), .Constant .none j q, r⟩] pos ∧ glC sc nm = true ∧ kindOk x = true := by
  unfold xDf at h
  split at h
  · split at h
    · rename_i y p e k j q r pos hb
      cases h
      simp only [Bool.and_eq_true, decide_eq_true_eq] at hb
      obtain ⟨⟨⟨rfl, rfl⟩, h2⟩, h3⟩ := hb
      exact ⟨p, pos, j, q, r, rfl, h2, h3⟩
    · cases h
  · cases h
/-- e[::-1] -/
def xRev : Expr → Option Expr
  | .Subscript x (.Slice none none (some (.UnaryOp .USub (.Constant (.int 1) _ _) _)) _) _ => some x
  | _ => none
theorem xRev_inv {e x : Expr} (h : xRev e = some x) : ∃ k p1 p2 p3 pos, e = .Subscript x (.Slice none none (some (.UnaryOp .USub (.Constant (.int 1) k p1) p2)) p3) pos := by
  unfold xRev at h
  split at h
  · cases h
    exact ⟨_, _, _, _, _, rfl⟩
  · cases h
def p1X : P1 → Scope → Expr → Option Expr
  | .rev, _, e => xRev e
  | .mnt, sc, e => x1C "min" sc e
  | .mxt, sc, e => x1C "max" sc e
  | .mnd, sc, e => xDf "min" sc e
  | .mxd, sc, e => xDf "max" sc e
  | .srs, sc, e => (x1C "sorted" sc e).bind fun y => x1C "set" sc y
  | .rpr, sc, e => x1C "repr" sc e
theorem p1X_call {p : P1} {sc : Scope} {e x : Expr} (h : p1X p sc e = some x) : (∃ nm q args kws pos, e = .Call (.Name nm q) args kws pos) ∨ ∃ a b pos, e = .Subscript a b pos := by
  cases p with
  | rev => obtain ⟨_, _, _, _, _, rfl⟩ := xRev_inv h; exact .inr ⟨_, _, _, rfl⟩
  | mnt => obtain ⟨p, pos, rfl, _⟩ := x1C_inv h; exact .inl ⟨_, _, _, _, _, rfl⟩
  | mxt => obtain ⟨p, pos, rfl, _⟩ := x1C_inv h; exact .inl ⟨_, _, _, _, _, rfl⟩
  | rpr => obtain ⟨p, pos, rfl, _⟩ := x1C_inv h; exact .inl ⟨_, _, _, _, _, rfl⟩
  | mnd => obtain ⟨p, pos, _, _, _, rfl, _⟩ := xDf_inv h; exact .inl ⟨_, _, _, _, _, rfl⟩
  | mxd => obtain ⟨p, pos, _, _, _, rfl, _⟩ := xDf_inv h; exact .inl ⟨_, _, _, _, _, rfl⟩
  | srs =>
    obtain ⟨_, h1, _⟩ := Option.bind_eq_some_iff.mp h
    obtain ⟨p, pos, rfl, _⟩ := x1C_inv h1
    exact .inl ⟨_, _, _, _, _, rfl⟩
section
variable {X : Cx} {G : Prg} {C : Ctx} {n : Nat} {sc : Scope} {N : List Str}
theorem nds_pairs : ∀ ps : List (Int × Int), nds (ps.map pairD) = true
  | [] => rfl
  | p :: ps => by
    show (nd (pairD p) && nds (ps.map pairD)) = true
    rw [nds_pairs ps]
    rfl
theorem nds_ints : ∀ is : List Int, nds (is.map PyData.int) = true
  | [] => rfl
  | i :: is => by
    show (nd (.int i) && nds (is.map PyData.int)) = true
    rw [nds_ints is]
    rfl
theorem pick_fin {m : D → List D → D} {K : PySem.W.Frag} {Hf H : Hp} {T : List OA} {us : List V} {ds : List D} {e : D} {Q : VK} (w : WR K Hf H T) (da : DpAll K Hf us ds) (gv : Giv K Hf H T (.fz e) Q) (i : Nat) (u : V) (h1 : us[i]? = some u) (h2 : ds[i]? = some e) : Q u H := by
  obtain ⟨d, h3, dp⟩ := dpa_at da h1
  rw [h2] at h3
  cases h3
  exact giv_f w dp gv
theorem b_min : ("min" : Str) ∈ blts := by decide +kernel
theorem b_max : ("max" : Str) ∈ blts := by decide +kernel
theorem dpa_apd {K : PySem.W.Frag} {H : Hp} : ∀ {us vs : List V} {ds es : List D}, DpAll K H us ds → DpAll K H vs es → DpAll K H (us ++ vs) (ds ++ es)
  | _, _, _, _, .nil, h => h
  | _, _, _, _, .cons a t, h => .cons a (dpa_apd t h)
theorem dpa_rev {K : PySem.W.Frag} {H : Hp} : ∀ {us : List V} {ds : List D}, DpAll K H us ds → DpAll K H us.reverse ds.reverse
  | _, _, .nil => .nil
  | _, _, .cons a t => by
    rw [List.reverse_cons, List.reverse_cons]
    exact dpa_apd (dpa_rev t) (.cons a .nil)
theorem b_sorted : ("sorted" : Str) ∈ blts := by decide +kernel
theorem b_set : ("set" : Str) ∈ blts := by decide +kernel
theorem pa_one {e : Expr} (hk : kindOk e = true) : PA X [e] (tCons (WE X e) tNil) := pa_cons we_pe pa_nil (star_ok hk _ _)
theorem se_pick (hc : Cn X G C n sc N) {nm : Str} {id : String} {m : D → List D → D} (cr : CallR X (.builtin id) (rPick X.K m)) (hb : nm ∈ blts) (hv : bootBuiltins nm = some (.builtin id)) (hn : nm ≠ "__name__") (hd : (nm == ("__debug__" : Str)) = false)
    {a : E} {x : Expr} {p pos : Pos} (ha : SE X C a x) (hg : glC sc nm = true) (hk : kindOk x = true) {ρ ρ1 : Env} {y : OV} (e1 : evE C a ρ = some (y, ρ1)) {q : Int × Int} {ps : List (Int × Int)} (ey : y.d = .list ((q :: ps).map pairD)) {g : Int × Int}
    (em : m (pairD q) (ps.map pairD) = pairD g) {σ : L2.St} {H Hf : Hp} {α : An} {τ : List OA} (R : Rel σ ρ α) (w : WR X.K Hf H (tr α ++ τ)) (Q : VK)
    (k : ∀ (H' Hf' : Hp) (α' : An) (z : OA), Same Hf Hf' → Rel σ ρ1 α' → z.o = .fz (pairD g) → WR X.K Hf' H' (z :: (tr α' ++ τ)) → Q z.v H') : WE X (.Call (.Name nm p) [x] [] pos) σ H Q := by
  refine pe_we (pe_callB cr (hc.gl hg) (hc.pr.free _ hb) hv (pa_one hk) hn hd (star_ok hk _ _) rfl) ?_
  refine one ha e1 R w _ fun H' Hf' α' u s1 R1 w1 du => ?_
  rw [ey] at du
  obtain ⟨b, us, rfl, hs, da⟩ := dp_list du
  refine ⟨b, us, pairD q, ps.map pairD, rfl, Same.seq w1.sub hs, (dps_same w1.sub da).toK (nds_pairs (q :: ps)), alike_pairs (q :: ps), Nat.le_trans (depth_all (n := 3) (fun p => by simp [pairD, PyData.depth, PyData.depthAll]) (q :: ps)) (by decide), ?_⟩
  rw [em]
  exact fun i u h1 h2 => pick_fin (m := m) w1 da (giv_q s1 R1 k) i u h1 h2
def pickR (f : Int → List Int → Int) : List Int → Option OV
  | [] => some (.fz .none)
  | i :: is => some (.fz (.int (f i is)))
theorem se_pickO (hc : Cn X G C n sc N) {nm : Str} {id : String} {m : D → List D → D} {f : Int → List Int → Int} (cr : CallRK X (.builtin id) [Str.ofString "default"] (rPickO X.K m)) (em : ∀ i is, m (.int i) (is.map .int) = .int (f i is)) (hb : nm ∈ blts) (hv : bootBuiltins nm = some (.builtin id))
    (hn : nm ≠ "__name__") (hd : (nm == ("__debug__" : Str)) = false) {a : E} {x : Expr} {p pos q2 q3 : Pos} {j : Nat} (ha : SE X C a x) (hg : glC sc nm = true) (hk : kindOk x = true) {ρ ρ1 : Env} {y : OV} (e1 : evE C a ρ = some (y, ρ1)) {is : List Int} (ey : y.d = .list (is.map .int)) {r : OV}
    (er : pickR f is = some r) {σ : L2.St} {H Hf : Hp} {α : An} {τ : List OA} (R : Rel σ ρ α) (w : WR X.K Hf H (tr α ++ τ)) (Q : VK)
    (k : ∀ (H' Hf' : Hp) (α' : An) (z : OA), Same Hf Hf' → Rel σ ρ1 α' → z.o = r → WR X.K Hf' H' (z :: (tr α' ++ τ)) → Q z.v H') : WE X (.Call (.Name nm p) [x] [⟨some (Str.ofString "default"), .Constant .none j q2, q3⟩] pos) σ H Q := by
  refine pe_we (pe_callBK cr (hc.gl hg) (hc.pr.free _ hb) hv (pa_one hk) (pk_cons pe_non pk_nil) hn hd (by rw [star_ok hk]; rfl) (by rw [star_ok hk]; rfl) rfl rfl rfl) ?_
  refine one ha e1 R w _ fun H' Hf' α' u s1 R1 w1 du => ?_
  rw [ey] at du
  obtain ⟨b, us, rfl, hs, da⟩ := dp_list du
  refine ⟨b, us, is.map .int, rfl, rfl, Same.seq w1.sub hs, (dps_same w1.sub da).toK (nds_ints is), alike_ints is, Nat.le_trans (depth_all (n := 3) (fun p => by simp [PyData.depth]) is) (by decide), fun z => ?_, fun d es z => ?_⟩
  · cases is with
    | nil => cases er; exact giv_f w1 .non (giv_q s1 R1 k)
    | cons i is => cases z
  · cases is with
    | nil => cases z
    | cons i is =>
      cases er
      cases z
      rw [em]
      exact fun i u h1 h2 => pick_fin (m := m) w1 da (giv_q s1 R1 k) i u h1 h2
theorem se_srs (hc : Cn X G C n sc N) {a : E} {x : Expr} {p pos p2 pos2 : Pos} (ha : SE X C a x) (hg : glC sc "sorted" = true) (hg2 : glC sc "set" = true) (hk : kindOk x = true) {ρ ρ1 : Env} {y : OV} (e1 : evE C a ρ = some (y, ρ1)) {is : List Int} (ey : y.d = .list (is.map .int)) (few : is.length < 4000)
    {σ : L2.St} {H Hf : Hp} {α : An} {τ : List OA} (R : Rel σ ρ α) (w : WR X.K Hf H (tr α ++ τ)) (Q : VK)
    (k : ∀ (H' Hf' : Hp) (α' : An) (z : OA), Same Hf Hf' → Rel σ ρ1 α' → z.o = .ol (fzs ((setI is).map .int)) → WR X.K Hf' H' (z :: (tr α' ++ τ)) → Q z.v H') : WE X (.Call (.Name "sorted" p) [.Call (.Name "set" p2) [x] [] pos2] [] pos) σ H Q := by
  have inner : PE X (.Call (.Name "set" p2) [x] [] pos2) _ := pe_callTy (cr_setI hc.calm) (hc.gl hg2) (hc.pr.free _ b_set) (by decide +kernel) (pa_one hk) (by decide) (by decide) (star_ok hk _ _) rfl
  refine pe_we (pe_callB (cr_sortMany hc.calm) (hc.gl hg) (hc.pr.free _ b_sorted) (by decide +kernel) (pa_cons inner pa_nil rfl) (by decide) (by decide) rfl rfl) ?_
  refine one ha e1 R w _ fun H' Hf' α' u s1 R1 w1 du => ?_
  rw [ey] at du
  obtain ⟨b, us, rfl, hs, da⟩ := dp_list du
  rw [intV da] at hs
  refine ⟨b, is, rfl, Same.seq w1.sub hs, few, fun s c hn le => ?_⟩
  refine ⟨s, _, c, rfl, upd_same, by omega, fun ns t h1 h2 h3 h4 => ?_⟩
  have e : ns = setI is := asc_one h1 (setI_asc is) fun k => by rw [h2, setI_mem]; exact decide_eq_true_iff
  rw [e]
  exact giv_L (w1.idle hn) h4 (intDp _) (giv_q s1 R1 k)
theorem se_srt (hc : Cn X G C n sc N) {a : E} {x : Expr} {p pos p2 pos2 : Pos} (ha : SE X C a x) (hg : glC sc "sorted" = true) (hg2 : glC sc "set" = true) (hk : kindOk x = true) {ρ ρ1 : Env} {y : OV} (e1 : evE C a ρ = some (y, ρ1)) {t : Str} (ey : y.d = .list [.str t])
    {σ : L2.St} {H Hf : Hp} {α : An} {τ : List OA} (R : Rel σ ρ α) (w : WR X.K Hf H (tr α ++ τ)) (Q : VK)
    (k : ∀ (H' Hf' : Hp) (α' : An) (z : OA), Same Hf Hf' → Rel σ ρ1 α' → z.o = .ol (fzs [.str t]) → WR X.K Hf' H' (z :: (tr α' ++ τ)) → Q z.v H') : WE X (.Call (.Name "sorted" p) [.Call (.Name "set" p2) [x] [] pos2] [] pos) σ H Q := by
  have inner : PE X (.Call (.Name "set" p2) [x] [] pos2) _ := pe_callTy (cr_setT hc.calm) (hc.gl hg2) (hc.pr.free _ b_set) (by decide +kernel) (pa_one hk) (by decide) (by decide) (star_ok hk _ _) rfl
  refine pe_we (pe_callB (cr_sortT hc.calm) (hc.gl hg) (hc.pr.free _ b_sorted) (by decide +kernel) (pa_cons inner pa_nil rfl) (by decide) (by decide) rfl rfl) ?_
  refine one ha e1 R w _ fun H' Hf' α' u s1 R1 w1 du => ?_
  rw [ey] at du
  obtain ⟨b, us, rfl, hs, da⟩ := dp_list du
  cases da with
  | cons d1 d2 =>
    cases d2
    rw [dp_str d1] at hs
    refine ⟨b, t, rfl, Same.seq w1.sub hs, fun s hn => ?_⟩
    refine ⟨s, t, rfl, upd_same, fun q h4 => ?_⟩
    exact giv_L (w1.idle hn) h4 (.cons (.str t) .nil) (giv_q s1 R1 k)
theorem min_int (i : Int) (is : List Int) : PySem.W.minD (.int i) (is.map .int) = .int (minI i is) := by
  rw [fold_min PyData.int (fun a b => decide (a < b)) lt_int is i]
  simp only [decide_eq_true_eq]
  rfl
theorem max_int (i : Int) (is : List Int) : PySem.W.maxD (.int i) (is.map .int) = .int (maxI i is) := by
  rw [fold_max PyData.int (fun a b => decide (a < b)) lt_int is i]
  simp only [decide_eq_true_eq]
  rfl
/-! ### repr of a list or a tuple -/
theorem nodict_shaped {d : D} (h : SeqAt.shaped d = true) : d.hasDict = false := PyData.hasDict_of_canLay d (SeqAt.canLay_of_shaped h)
theorem call_repr (gu : X.A.guards = some []) (hu : X.A.units + 66 < cLine) : CallR X (.builtin "repr") (fun xs H Q => ∃ x d, xs = [x] ∧ L2.Dp X.K H x d ∧ isDisplay d = true ∧ SeqAt.shaped d = true ∧ d.showable = true ∧ d.shown.length ≤ sizeLine ∧ Q (.str d.shown) H) := by
  intro pins s σ H xs us Q I r h
  obtain ⟨x, d, rfl, dp, di, sh, sw, ln, q⟩ := h
  obtain ⟨u, rfl, ru⟩ := vals1 r
  obtain ⟨as, rd⟩ := Dp.reads I d x u dp ru
  obtain ⟨a, rfl⟩ := isRef_of_reads rd di
  have dd := SeqAt.depth_of_shaped sh
  exact repr_of_reads' rd sw (PyData.noDict_hsm (nodict_shaped sh)) gu (by omega) (fun _ _ e => e) (fun h' u tk hk => ⟨.str _, H, I.kept hk, ⟨u, rfl⟩, q⟩) ln
theorem b_repr : ("repr" : Str) ∈ blts := by decide +kernel
theorem se_repr (hc : Cn X G C n sc N) {a : E} {x : Expr} {p pos : Pos} (ha : SE X C a x) (hg : glC sc "repr" = true) (hk : kindOk x = true) {ρ ρ1 : Env} {y r : OV} (e1 : evE C a ρ = some (y, ρ1)) (e2 : rprD y.d = some r)
    {σ : L2.St} {H Hf : Hp} {α : An} {τ : List OA} (R : Rel σ ρ α) (w : WR X.K Hf H (tr α ++ τ)) (Q : VK)
    (k : ∀ (H' Hf' : Hp) (α' : An) (z : OA), Same Hf Hf' → Rel σ ρ1 α' → z.o = r → WR X.K Hf' H' (z :: (tr α' ++ τ)) → Q z.v H') : WE X (.Call (.Name "repr" p) [x] [] pos) σ H Q := by
  have hu : X.A.units + 66 < cLine := by have := hc.room.un; omega
  refine pe_we (pe_callB (call_repr hc.gu hu) (hc.gl hg) (hc.pr.free _ b_repr) (by decide +kernel) (pa_one hk) (by decide) (by decide) (star_ok hk _ _) rfl) ?_
  refine one ha e1 R w _ fun H' Hf' α' u s1 R1 w1 du => ?_
  obtain ⟨h1, h2⟩ := gd_inv e2
  cases h2
  have z := Bool.and_eq_true_iff.mp h1
  have z2 := Bool.and_eq_true_iff.mp z.2
  have z3 := Bool.and_eq_true_iff.mp z2.2
  exact ⟨u, y.d, rfl, (dp_same w1.sub du).toK (nd_shaped z2.1), z.1, z2.1, z3.1, of_decide_eq_true z3.2, giv_f w1 (.str _) (giv_q s1 R1 k)⟩
theorem se_p1 (hc : Cn X G C n sc N) {p : P1} {a : E} {e x : Expr} (hx : p1X p sc e = some x) (ha : SE X C a x) : SE X C (.p1 p a) e := by
  intro ρ r ρ' he σ H Hf α τ R w Q q
  obtain ⟨y, ρ1, e1, he⟩ := bd_inv he
  obtain ⟨z, e2, he⟩ := b1_inv he
  cases he
  cases p with
  | rpr =>
    obtain ⟨p, pos, rfl, hg, hk⟩ := x1C_inv hx
    exact se_repr hc ha hg hk e1 e2 R w Q q
  | rev =>
    obtain ⟨k, p1, p2, p3, pos, rfl⟩ := xRev_inv hx
    cases ey : y.d with
    | list ds =>
      rw [ey] at e2
      cases e2
      refine pe_we (pe_revL we_pe) ?_
      refine one ha e1 R w _ fun H' Hf' α' u s1 R1 w1 du => ?_
      rw [ey] at du
      obtain ⟨b, us, rfl, hs, da⟩ := dp_list du
      exact ⟨b, us, rfl, Same.seq w1.sub hs, fun p hp => giv_L w1 hp (dpa_rev da) (giv_q s1 R1 q)⟩
    | tuple ds =>
      rw [ey] at e2
      cases e2
      refine pe_we (pe_revT we_pe) ?_
      refine one ha e1 R w _ fun H' Hf' α' u s1 R1 w1 du => ?_
      rw [ey] at du
      obtain ⟨b, us, rfl, hs, da⟩ := dp_tuple du
      exact ⟨b, us, rfl, sqt_same w1.sub hs, fun p hp => giv_T w1 hp (dpa_rev da) (giv_q s1 R1 q)⟩
    | _ => rw [ey] at e2; cases e2
  | mnt =>
    obtain ⟨p, pos, rfl, hg, hk⟩ := x1C_inv hx
    cases ey : y.d with
    | list ds =>
      rw [ey] at e2
      obtain ⟨ps, h1, h2⟩ := b1_inv (show b1 (pairsD ds) _ = some r from e2)
      cases ps with
      | nil => cases h2
      | cons c ps =>
        cases h2
        rw [pairs_of h1] at ey
        exact se_pick hc (cr_minD hc.calm hc.units) b_min (by decide +kernel) (by decide) (by decide) ha hg hk e1 ey (fold_min pairD ltP lt_pair ps c) R w Q q
    | _ => rw [ey] at e2; cases e2
  | mxt =>
    obtain ⟨p, pos, rfl, hg, hk⟩ := x1C_inv hx
    cases ey : y.d with
    | list ds =>
      rw [ey] at e2
      obtain ⟨ps, h1, h2⟩ := b1_inv (show b1 (pairsD ds) _ = some r from e2)
      cases ps with
      | nil => cases h2
      | cons c ps =>
        cases h2
        rw [pairs_of h1] at ey
        exact se_pick hc (cr_maxD hc.calm hc.units) b_max (by decide +kernel) (by decide) (by decide) ha hg hk e1 ey (fold_max pairD ltP lt_pair ps c) R w Q q
    | _ => rw [ey] at e2; cases e2
  | mnd =>
    obtain ⟨p, pos, j, q2, q3, rfl, hg, hk⟩ := xDf_inv hx
    cases ey : y.d with
    | list ds =>
      rw [ey] at e2
      obtain ⟨is, h1, h2⟩ := b1_inv (show b1 (intsD ds) _ = some r from e2)
      rw [ints_of h1] at ey
      have h2 : pickR minI is = some r := by cases is <;> exact h2
      exact se_pickO (f := minI) hc (cr_minO hc.calm hc.units) min_int b_min (by decide +kernel) (by decide) (by decide) ha hg hk e1 ey h2 R w Q q
    | _ => rw [ey] at e2; cases e2
  | mxd =>
    obtain ⟨p, pos, j, q2, q3, rfl, hg, hk⟩ := xDf_inv hx
    cases ey : y.d with
    | list ds =>
      rw [ey] at e2
      obtain ⟨is, h1, h2⟩ := b1_inv (show b1 (intsD ds) _ = some r from e2)
      rw [ints_of h1] at ey
      have h2 : pickR maxI is = some r := by cases is <;> exact h2
      exact se_pickO (f := maxI) hc (cr_maxO hc.calm hc.units) max_int b_max (by decide +kernel) (by decide) (by decide) ha hg hk e1 ey h2 R w Q q
    | _ => rw [ey] at e2; cases e2
  | srs =>
    obtain ⟨y2, h1, h2⟩ := Option.bind_eq_some_iff.mp hx
    obtain ⟨p, pos, rfl, hg, hk⟩ := x1C_inv h1
    obtain ⟨p2, pos2, rfl, hg2, hk2⟩ := x1C_inv h2
    cases ey : y.d with
    | list ds =>
      rw [ey] at e2
      have e2 : srsD ds = some r := e2
      unfold srsD at e2
      split at e2
      · cases e2
        exact se_srt hc ha hg hg2 hk2 e1 ey R w Q q
      · obtain ⟨is, h3, h4⟩ := b1_inv e2
        obtain ⟨h5, h6⟩ := gd_inv h4
        cases h6
        rw [ints_of h3] at ey
        exact se_srs hc ha hg hg2 hk2 e1 ey (of_decide_eq_true h5) R w Q q
    | _ => rw [ey] at e2; cases e2
end
end PF

/-! PF, thirteenth part: the checker, that a text of the small language is that of the program; it is right. -/
namespace PF
open PySem PySem.Spec PyProof.Rows L2
section
variable {X : Cx} {G : Prg} {C : Ctx} {n : Nat} {sc : Scope} {N : List Str}
theorem st_isn {m : Bool} {a : E} {ea : Expr} {pos pos' : Pos} {j : Nat} (ha : SE X C a ea) : ST X C (.isn m a) (.Compare ea [if m then .IsNot else .Is] [.Constant .none j pos'] pos) := by
  intro ρ r ρ' t he ht σ H Hf α τ R w Q q
  obtain ⟨x, ρ1, e1, he⟩ := bd_inv he
  have key : ∀ (c : Bool), (x.d = .none → c = true) → (x.d ≠ .none → c = false) → (if m then !c else c) = t → ρ' = ρ1 → WT X (.Compare ea [if m then .IsNot else .Is] [.Constant .none j pos'] pos) σ H Q := by
    intro c h1 h2 er eρ
    subst er eρ
    have dn : ∀ {Hg : Hp} {u : V}, Dp X.K Hg u x.d → decide (u = .non) = c := fun {Hg u} du => by
      by_cases hx : x.d = .none
      · rw [hx] at du
        rw [h1 hx, dp_none du]; rfl
      · rw [h2 hx]
        refine decide_eq_false fun z => hx ?_
        subst z
        generalize x.d = dd at du
        cases du
        rfl
    cases m with
    | true =>
      refine pt_wt (pt_cmp (pc_notN we_pe) rfl) ?_
      refine one ha e1 R w _ fun H' Hf' α' u s1 R1 w1 du => ⟨!decide (u = .non), rfl, ?_⟩
      rw [dn du]
      exact q H' Hf' α' s1 R1 w1
    | false =>
      refine pt_wt (pt_cmp (pc_isN we_pe) rfl) ?_
      refine one ha e1 R w _ fun H' Hf' α' u s1 R1 w1 du => ⟨decide (u = .non), rfl, ?_⟩
      rw [dn du]
      exact q H' Hf' α' s1 R1 w1
  cases hx : x.d with
  | none =>
    rw [hx] at he
    have he := Option.some.inj (show some (OV.fz (.bool (!m)), ρ1) = some (r, ρ') from he)
    cases he
    cases ht
    exact key true (fun _ => rfl) (fun z => absurd hx z) (by cases m <;> rfl) rfl
  | _ =>
    rw [hx] at he
    have he := Option.some.inj (show some (OV.fz (.bool m), ρ1) = some (r, ρ') from he)
    cases he
    cases ht
    exact key false (fun z => by rw [hx] at z; cases z) (fun _ => rfl) (by cases m <;> rfl) rfl
theorem st_chn (hc : Cn X G C n sc N) {o1 o2 : Cop} {a b c : E} {ea eb ec : Expr} {pos : Pos} (ha : SE X C a ea) (hb : SE X C b eb) (hcc : SE X C c ec) (hm : lastMarks [copA o1, copA o2] [eb, ec] = false) : ST X C (.chn o1 o2 a b c) (.Compare ea [copA o1, copA o2] [eb, ec] pos) := by
  intro ρ r ρ' t he ht σ H Hf α τ R w Q q
  obtain ⟨x, ρ1, e1, he⟩ := bd_inv he
  obtain ⟨y, ρ2, e2, he⟩ := bd_inv he
  obtain ⟨z, e3, he⟩ := b1_inv he
  obtain ⟨rr, ho, hk⟩ := cmp_ok (X := X) hc.units e3
  have fin : ∀ (rr' : R2), OpR X (compareOp (copA o2)) rr' → (∀ (H' Hf' : Hp) (α' : An) (u v : V), Same Hf Hf' → Rel σ ρ2 α' → WR X.K Hf' H' (tr α' ++ τ) → Dp X.K Hf' u x.d → Dp X.K Hf' v y.d → if z = true then WE X ec σ H' fun w' H4 => rr' v w' H4 fun xx HH => ∃ k, xx = .bl k ∧ Q k HH else ∃ k, V.bl false = .bl k ∧ Q k H') → WT X (.Compare ea [copA o1, copA o2] [eb, ec] pos) σ H Q := by
    intro rr' ho' k
    refine pt_wt (pt_chain ho ho' we_pe we_pe we_pe hm) ?_
    refine two ha hb e1 e2 R w _ fun H' Hf' α' u v s1 R1 w1 du dv => hk u v Hf' H' _ _ du dv w1 fun H2 Hf2 x2 s2 e w2 => ?_
    obtain ⟨v2, rfl⟩ := oa_fz e
    exact ⟨z, dp_bool w2.dpf, k H2 Hf2 α' u v (s1.trans s2) R1 w2.tail (dp_same s2 du) (dp_same s2 dv)⟩
  cases z with
  | true =>
    obtain ⟨p, ρ3, e4, he⟩ := bd_inv he
    obtain ⟨t', e5, he⟩ := b1_inv he
    cases he
    cases ht
    obtain ⟨rr', ho', hk'⟩ := cmp_ok (X := X) hc.units e5
    refine fin rr' ho' fun H' Hf' α' u v s1 R1 w1 du dv => iteT ?_
    refine one hcc e4 R1 w1 _ fun H2 Hf2 α2 v2 s2 R2 w2 dp => ?_
    refine hk' v v2 Hf2 H2 _ _ (dp_same s2 dv) dp w2 fun H3 Hf3 x3 s3 e w3 => ?_
    obtain ⟨v3, rfl⟩ := oa_fz e
    exact ⟨_, dp_bool w3.dpf, q H3 Hf3 α2 ((s1.trans s2).trans s3) R2 w3.tail⟩
  | false =>
    cases he
    cases ht
    have hf : OpR X (compareOp (copA o2)) fun _ _ _ _ => False := fun _ _ _ _ _ _ _ _ _ _ _ _ h => h.elim
    exact fin _ hf fun H' Hf' α' u v s1 R1 w1 du dv => iteF ⟨false, rfl, q H' Hf' α' s1 R1 w1⟩
theorem st_ite {t a b : E} {et ea eb : Expr} {pos : Pos} (ht : ST X C t et) (ha : ST X C a ea) (hb : ST X C b eb) : ST X C (.ite t a b) (.IfExp et ea eb pos) := by
  intro ρ r ρ' d he hd σ H Hf α τ R w Q q
  obtain ⟨x, ρ1, e1, he⟩ := bd_inv he
  obtain ⟨c, e2, he⟩ := b1_inv he
  intro pins s I
  have hw : WT X et σ H fun cc H1 => if cc = true then WT X ea σ H1 Q else WT X eb σ H1 Q := by
    refine ht ρ x ρ1 c e1 e2 σ H Hf α τ R w _ fun H1 Hf1 α1 s1 R1 w1 => ?_
    cases c with
    | true => exact iteT (ha ρ1 r ρ' d he hd σ H1 Hf1 α1 τ R1 w1 Q fun H2 Hf2 α2 s2 R2 w2 => q H2 Hf2 α2 (s1.trans s2) R2 w2)
    | false => exact iteF (hb ρ1 r ρ' d he hd σ H1 Hf1 α1 τ R1 w1 Q fun H2 Hf2 α2 s2 R2 w2 => q H2 Hf2 α2 (s1.trans s2) R2 w2)
  have e : ∀ wh, isTrue (.IfExp et ea eb pos) X.env wh = (do if ← isTrue et X.env (eval et X.env) then isTrue ea X.env (eval ea X.env) else isTrue eb X.env (eval eb X.env)) := fun _ => by
    rw [PySem.isTrue]
  rw [e]
  refine wpAny_bind (thn (hw pins s I) fun cc s1 ⟨H1, I1, q1⟩ => ?_)
  cases cc with
  | true =>
    rw [if_pos rfl] at q1
    exact q1 pins s1 I1
  | false =>
    rw [if_neg Bool.false_ne_true] at q1
    exact q1 pins s1 I1
end
/-! ### the checker -/
def cConst (d : D) (k : Const) : Bool := match d, k with
    | .none, .none => true
    | .bool b, .bool c => b == c
    | .int i, .int j => i == j
    | .str x, .str y => x == y
    | _, _ => false
def cName (N : List Str) (sc : Scope) (i : Nat) (x : Str) : Bool := decide (N[i]? = some x) && visC sc x && okNm x
mutual
def cT (N : List Str) (sc : Scope) : T → Expr → Bool
  | .nm i, .Name x _ => decide (N[i]? = some x) && locC sc x
  | .tp ts, .Tuple es _ _ => cTs N sc ts es && kindOks es && decide (ts.len = es.length)
  | _, _ => false
def cTs (N : List Str) (sc : Scope) : Ts → List Expr → Bool
  | .nil, [] => true
  | .cons t ts, e :: es => kindOk e && cT N sc t e && cTs N sc ts es
  | _, _ => false
end
def cTy (sc : Scope) (ts : List Ty) (ty : Expr) : Bool := match ty with
  | .Name y _ => (match ts with
    | [t] => decide (y = tyS t) && glC sc y
    | _ => false)
  | .Tuple es _ _ => tyNames sc ts es && decide (ts.length ≤ 100)
  | _ => false
def cFun (G : Prg) (sc : Scope) (g : Nat) (x : Str) (io : List Nat) : Bool := decide (G.names[g]? = some x) && (match G.pars[g]? with | some _ => true | none => false) && (match G.fns[g]? with | some f => decide (io = f.io) | none => false) && glC sc x && okNm x
def cFun1 (G : Prg) (sc : Scope) (g : Nat) (x : Str) : Bool := decide (G.names[g]? = some x) && (match G.pars[g]? with | some _ => true | none => false) && (match G.fns[g]? with | some f => true | none => false) && glC sc x && okNm x
def cV1 (G : Prg) (q : Str × Nat) : Bool := decide (G.names[q.2]? = some q.1) && (match G.pars[q.2]? with | some _ => true | none => false) && (match G.fns[q.2]? with | some f => decide (f.io = []) | none => false)
def cOwn (N : List Str) (sc scope : Scope) (own : List Nat) (tg : T) : Bool := decide own.Nodup && (tg.slots.all fun i => decide (i ∈ own)) && blkC N sc scope (ownP N own)
def isZ : E → Bool
  | .c (.int 0) => true
  | _ => false
theorem isZ_eq {e : E} (h : isZ e = true) : e = .c (.int 0) := by
  unfold isZ at h
  split at h
  · rfl
  · cases h
def isYes : E → Bool
  | .c (.bool true) => true
  | _ => false
mutual
def cE (G : Prg) (N : List Str) : E → Scope → Expr → Bool
  | .c d, _, .Constant k _ _ => cConst d k
  | .v i, sc, .Name x _ => cName N sc i x
  | .bin op a b, sc, .BinOp l o r _ => decide (o = opA op) && cE G N a sc l && cE G N b sc r
  | .neg a, sc, .UnaryOp .USub x _ => cE G N a sc x
  | .nt a, sc, .UnaryOp .Not x _ => cE G N a sc x
  | .cmp op a b, sc, .Compare l [o] [r] _ => decide (o = copA op) && kindOk r && cE G N a sc l && cE G N b sc r
  | .isn m a, sc, .Compare l [o] [.Constant .none _ _] _ => decide (o = if m then .IsNot else .Is) && cE G N a sc l
  | .chn o1 o2 a b c, sc, .Compare l [p, q] [r, s] _ => decide (p = copA o1) && decide (q = copA o2) && kindOk s && cE G N a sc l && cE G N b sc r && cE G N c sc s
  | .an a b, sc, .BoolOp .And (x :: y :: rest) _ => cE G N a sc x && (match rest with
    | [] => cE G N b sc y
    | _ => cAnd G N b sc (y :: rest))
  | .orr a b, sc, .BoolOp .Or (x :: y :: rest) _ => cE G N a sc x && (match rest with
    | [] => cE G N b sc y
    | _ => cOr G N b sc (y :: rest))
  | .ite t a b, sc, .IfExp et ea eb _ => cE G N t sc et && cE G N a sc ea && cE G N b sc eb
  | .tup es, sc, .Tuple ees _ _ => cEs G N es sc ees
  | .lst es, sc, .List ees _ => cEs G N es sc ees
  | .idx a b, sc, .Subscript l r _ => kindOk r && cE G N a sc l && cE G N b sc r
  | .slc a lo hi, sc, .Subscript l (.Slice elo ehi none _) _ => cE G N a sc l && cO G N lo sc elo && cO G N hi sc ehi
  | .call g as, sc, .Call (.Name x _) (e :: es) [] _ => cFun G sc g x (as.pos 0) && kindOks (e :: es) && cA G N as sc (e :: es)
  | .callk g es perm, sc, .Call (.Name x _) [] ks _ => cFun G sc g x [] && kwAll ks && decide ((g, kwNames ks, perm) ∈ G.kws) && cK G N es sc ks
  | .blt b es, sc, .Call (.Name x _) (e :: ees) [] _ => decide (x = bltN b) && glC sc (bltN b) && kindOks (e :: ees) && cEs G N es sc (e :: ees)
  | .isi ts a, sc, .Call (.Name x _) [e, ty] [] _ => decide (x = "isinstance") && glC sc "isinstance" && kindOk e && cTy sc ts ty && cE G N a sc e
  | .lc own tg it cnd elt, sc, .ListComp eelt [⟨etg, eit, ifs, 0⟩] scope _ => cOwn N sc scope own tg && kindOk eit && cI G N it sc etg eit && cT N scope tg etg && (match ifs with | [] => isYes cnd | [e] => cE G N cnd scope e | _ => false) && cE G N elt scope eelt
  | .lc2 own own1 tg it tg1 it1 cnd elt, sc, .ListComp eelt [⟨etg, eit, [], 0⟩, ⟨etg1, eit1, ifs, 0⟩] scope _ => cOwn N sc scope own tg && decide own1.Nodup && (tg1.slots.all fun i => decide (i ∈ own1)) && (own1.all fun i => decide (i ∈ own)) && kindOk eit && kindOk eit1 && cI G N it sc etg eit && cT N scope tg etg && cI G N it1 scope etg1 eit1 && cT N scope tg1 etg1 && (match ifs with | [] => isYes cnd | [e] => cE G N cnd scope e | _ => false) && cE G N elt scope eelt
  | .idxO i b, sc, .Subscript (.Name x _) r _ => kindOk r && cName N sc i x && cE G N b sc r
  | .idxOO i b c, sc, .Subscript (.Subscript (.Name x _) r _) s _ => kindOk r && kindOk s && cName N sc i x && cE G N b sc r && cE G N c sc s
  | .lenO i, sc, .Call (.Name y _) [.Name x _] [] _ => decide (y = "len") && glC sc "len" && cName N sc i x
  | .mv i, sc, .Name x _ => cName N sc i x
  | .bor a, sc, e => cE G N a sc e
  | .gc c, sc, .Name x _ => decide ((x, c) ∈ G.cs) && glC sc x && okNm x
  | .fm a, sc, .FormattedValue e k o _ => decide (k = -1) && o.isNone && cE G N a sc e
  | .js es, sc, .JoinedStr (v1 :: v2 :: vs) _ => cJ G N es sc (v1 :: v2 :: vs)
  | .lrng a b, sc, .Call (.Name x _) [.Call (.Name y _) [eb] [] _] [] _ => decide (x = "list") && decide (y = "range") && glC sc "list" && glC sc "range" && isZ a && kindOk eb && cE G N b sc eb
  | .lrng a b, sc, .Call (.Name x _) [.Call (.Name y _) [ea, eb] [] _] [] _ => decide (x = "list") && decide (y = "range") && glC sc "list" && glC sc "range" && kindOk ea && kindOk eb && cE G N a sc ea && cE G N b sc eb
  | .isb m b a, sc, .Compare l [o] [.Constant (.bool c) _ _] _ => decide (o = if m then .IsNot else .Is) && decide (c = b) && cE G N a sc l
  | .callt g a, sc, .Call (.Name x _) [e] [] _ => cFun1 G sc g x && kindOk e && cE G N a sc e
  | .lz a b, sc, .Call (.Name x _) [.Call (.Name y _) [ea, eb] [] _] [] _ => decide (x = "list") && decide (y = "zip") && glC sc "list" && glC sc "zip" && kindOk ea && kindOk eb && cE G N a sc ea && cE G N b sc eb
  | .cat a b, sc, .BinOp l o r _ => decide (o = .Add) && cE G N a sc l && cE G N b sc r
  | .fnv y, sc, .Name x _ => decide (y = x) && decide (x ∈ G.names) && glC sc x && okNm x
  | .callv i cs a es, sc, .Call (.Name x _) (e :: ees) [] _ => cName N sc i x && cs.all (cV1 G) && kindOks (e :: ees) && cE G N a sc e && cEs G N es sc ees
  | .popI i a, sc, .Call (.Attribute (.Name x _) m ap) [e] [] cp => cName N sc i x && decide (m = "pop") && (ap.endLine == cp.line) && kindOk e && cE G N a sc e
  | .p1 p a, sc, e => (match p1X p sc e with | some x => cE G N a sc x | none => false)
  | _, _, _ => false
def cJ (G : Prg) (N : List Str) : Es → Scope → List Expr → Bool
  | .nil, _, [] => true
  | .cons e es, sc, x :: xs => cE G N e sc x && cJ G N es sc xs
  | _, _, _ => false
def cAnd (G : Prg) (N : List Str) : E → Scope → List Expr → Bool
  | .an a b, sc, x :: y :: rest => cE G N a sc x && (match rest with
    | [] => cE G N b sc y
    | _ => cAnd G N b sc (y :: rest))
  | _, _, _ => false
def cOr (G : Prg) (N : List Str) : E → Scope → List Expr → Bool
  | .orr a b, sc, x :: y :: rest => cE G N a sc x && (match rest with
    | [] => cE G N b sc y
    | _ => cOr G N b sc (y :: rest))
  | _, _, _ => false
def cO (G : Prg) (N : List Str) : Oe → Scope → Option Expr → Bool
  | .no, _, none => true
  | .ye e, sc, some x => cE G N e sc x
  | _, _, _ => false
def cEs (G : Prg) (N : List Str) : Es → Scope → List Expr → Bool
  | .nil, _, [] => true
  | .cons e es, sc, x :: xs => kindOk x && cE G N e sc x && cEs G N es sc xs
  | _, _, _ => false
def cK (G : Prg) (N : List Str) : Es → Scope → List Keyword → Bool
  | .nil, _, [] => true
  | .cons e es, sc, ⟨_, x, _⟩ :: xs => cE G N e sc x && cK G N es sc xs
  | _, _, _ => false
def cA (G : Prg) (N : List Str) : As → Scope → List Expr → Bool
  | .nil, _, [] => true
  | .ev e as, sc, x :: xs => kindOk x && cE G N e sc x && cA G N as sc xs
  | .io i as, sc, .Name x _ :: xs => cName N sc i x && cA G N as sc xs
  | _, _, _ => false
def cI (G : Prg) (N : List Str) : It → Scope → Expr → Expr → Bool
  | .seq a, sc, _, e => cE G N a sc e
  | .rng1 a, sc, _, .Call (.Name x _) [ea] [] _ => decide (x = "range") && glC sc "range" && kindOk ea && cE G N a sc ea
  | .rng2 a b, sc, _, .Call (.Name x _) [ea, eb] [] _ => decide (x = "range") && glC sc "range" && kindOk ea && kindOk eb && cE G N a sc ea && cE G N b sc eb
  | .enum a, sc, .Tuple _ _ _, .Call (.Name x _) [ea] [] _ => decide (x = "enumerate") && glC sc "enumerate" && kindOk ea && cE G N a sc ea
  | .zip a b, sc, .Tuple _ _ _, .Call (.Name x _) [ea, eb] [] _ => decide (x = "zip") && glC sc "zip" && kindOk ea && kindOk eb && cE G N a sc ea && cE G N b sc eb
  | .zip3 a b c, sc, .Tuple _ _ _, .Call (.Name x _) [ea, eb, ec] [] _ => decide (x = "zip") && glC sc "zip" && kindOk ea && kindOk eb && kindOk ec && cE G N a sc ea && cE G N b sc eb && cE G N c sc ec
  | _, _, _, _ => false
end
end PF

/-! PF, fourteenth part: the checker is right (expressions). -/
namespace PF
open PySem PySem.Spec PyProof.Rows L2
theorem and2 {a b : Bool} (h : (a && b) = true) : a = true ∧ b = true := Bool.and_eq_true_iff.mp h
theorem no {P : Prop} (h : false = true) : P := absurd h Bool.false_ne_true
section
variable {G : Prg} {C : Ctx} {n : Nat} {N : List Str}
theorem cName_inv {sc : Scope} {i : Nat} {x : Str} (h : cName N sc i x = true) : N[i]? = some x ∧ visC sc x = true ∧ okNm x = true := by
  obtain ⟨h1, h2⟩ := and2 h
  obtain ⟨h3, h4⟩ := and2 h1
  exact ⟨of_decide_eq_true h3, h4, h2⟩
mutual
theorem sG {sc : Scope} : ∀ (t : T) {e : Expr} {X : Cx}, Cn X G C n sc N → cT N sc t e = true → SG X t e
  | .nm i, e, X, hc, h => by
    cases e with
    | Name x p =>
      obtain ⟨h1, h2⟩ := and2 h
      exact sg_nm hc (of_decide_eq_true h1) h2
    | _ => exact no h
  | .tp ts, e, X, hc, h => by
    cases e with
    | Tuple es k p =>
      obtain ⟨h1, h2⟩ := and2 h
      obtain ⟨h3, h4⟩ := and2 h1
      exact sg_tp hc (sGs ts hc h3) h4 (of_decide_eq_true h2)
    | _ => exact no h
theorem sGs {sc : Scope} : ∀ (t : Ts) {es : List Expr} {X : Cx}, Cn X G C n sc N → cTs N sc t es = true → SGs X t es
  | .nil, es, X, hc, h => by
    cases es with
    | nil => exact sgs_nil
    | cons e es => exact no h
  | .cons t ts, es, X, hc, h => by
    cases es with
    | nil => exact no h
    | cons e es =>
      obtain ⟨h1, h2⟩ := and2 h
      obtain ⟨h3, h4⟩ := and2 h1
      exact sgs_cons (sG t hc h4) (sGs ts hc h2) h3
end
theorem cV1_inv {q : Str × Nat} (h : cV1 G q = true) : ∃ ps f, G.names[q.2]? = some q.1 ∧ G.pars[q.2]? = some ps ∧ G.fns[q.2]? = some f ∧ f.io = [] := by
  unfold cV1 at h
  obtain ⟨h, h3⟩ := and2 h
  obtain ⟨h1, h2⟩ := and2 h
  cases e1 : G.pars[q.2]? with
  | none => rw [e1] at h2; exact no h2
  | some ps =>
    cases e2 : G.fns[q.2]? with
    | none => rw [e2] at h3; exact no h3
    | some f =>
      rw [e2] at h3
      exact ⟨ps, f, of_decide_eq_true h1, rfl, rfl, of_decide_eq_true h3⟩
theorem cFun_inv {sc : Scope} {g : Nat} {x : Str} {io : List Nat} (h : cFun G sc g x io = true) : ∃ ps f, G.names[g]? = some x ∧ G.pars[g]? = some ps ∧ G.fns[g]? = some f ∧ io = f.io ∧ glC sc x = true ∧ okNm x = true := by
  unfold cFun at h
  obtain ⟨h, h5⟩ := and2 h
  obtain ⟨h, h4⟩ := and2 h
  obtain ⟨h, h3⟩ := and2 h
  obtain ⟨h1, h2⟩ := and2 h
  cases e1 : G.pars[g]? with
  | none => rw [e1] at h2; exact no h2
  | some ps =>
    cases e2 : G.fns[g]? with
    | none => rw [e2] at h3; exact no h3
    | some f =>
      rw [e2] at h3
      exact ⟨ps, f, of_decide_eq_true h1, rfl, rfl, of_decide_eq_true h3, h4, h5⟩
theorem cFun1_inv {sc : Scope} {g : Nat} {x : Str} (h : cFun1 G sc g x = true) : ∃ ps f, G.names[g]? = some x ∧ G.pars[g]? = some ps ∧ G.fns[g]? = some f ∧ glC sc x = true ∧ okNm x = true := by
  unfold cFun1 at h
  obtain ⟨h, h5⟩ := and2 h
  obtain ⟨h, h4⟩ := and2 h
  obtain ⟨h, h3⟩ := and2 h
  obtain ⟨h1, h2⟩ := and2 h
  cases e1 : G.pars[g]? with
  | none => rw [e1] at h2; exact no h2
  | some ps =>
    cases e2 : G.fns[g]? with
    | none => rw [e2] at h3; exact no h3
    | some f => exact ⟨ps, f, of_decide_eq_true h1, rfl, rfl, h4, h5⟩
theorem cOwn_inv {sc scope : Scope} {own : List Nat} {tg : T} (h : cOwn N sc scope own tg = true) : own.Nodup ∧ (∀ i ∈ tg.slots, i ∈ own) ∧ blkC N sc scope (ownP N own) = true := by
  obtain ⟨h, h3⟩ := and2 h
  obtain ⟨h1, h2⟩ := and2 h
  exact ⟨of_decide_eq_true h1, fun i hi => of_decide_eq_true (List.all_eq_true.mp h2 i hi), h3⟩
theorem isYes_inv {c : E} (h : isYes c = true) : c = .c (.bool true) := by
  cases c with
  | c d =>
    cases d with
    | bool b =>
      cases b with
      | true => rfl
      | false => exact no h
    | _ => exact no h
  | _ => exact no h
mutual
theorem sE : ∀ (ir : E) {sc : Scope} {e : Expr} {X : Cx}, Cn X G C n sc N → cE G N ir sc e = true → SE X C ir e ∧ ST X C ir e
  | .c d, sc, e, X, hc, h => by
    cases e with
    | Constant k j p =>
      have z : SE X C (.c d) (.Constant k j p) := se_c h
      exact ⟨z, st_plain z fun _ => rfl⟩
    | _ => exact no h
  | .v i, sc, e, X, hc, h => by
    cases e with
    | Name x p =>
      obtain ⟨h1, h2, h3⟩ := cName_inv h
      have z : SE X C (.v i) (.Name x p) := se_v hc h1 h2 h3
      exact ⟨z, st_plain z fun _ => rfl⟩
    | _ => exact no h
  | .bin op a b, sc, e, X, hc, h => by
    cases e with
    | BinOp l o r p =>
      obtain ⟨h, h3⟩ := and2 h
      obtain ⟨h1, h2⟩ := and2 h
      have e := of_decide_eq_true h1
      subst e
      have z : SE X C (.bin op a b) (.BinOp l (opA op) r p) := se_bin (sE a hc h2).1 (sE b hc h3).1
      exact ⟨z, st_plain z fun _ => rfl⟩
    | _ => exact no h
  | .neg a, sc, e, X, hc, h => by
    cases e with
    | UnaryOp o x p =>
      cases o with
      | USub =>
        have z : SE X C (.neg a) (.UnaryOp .USub x p) := se_neg (sE a hc h).1
        exact ⟨z, st_plain z fun _ => rfl⟩
      | _ => exact no h
    | _ => exact no h
  | .nt a, sc, e, X, hc, h => by
    cases e with
    | UnaryOp o x p =>
      cases o with
      | Not => exact ⟨se_nt (sE a hc h).1, st_nt (sE a hc h).2⟩
      | _ => exact no h
    | _ => exact no h
  | .cmp op a b, sc, e, X, hc, h => by
    cases e with
    | Compare l ops cs p =>
      match ops, cs, h with
      | [o], [r], h =>
        obtain ⟨h, h4⟩ := and2 h
        obtain ⟨h, h3⟩ := and2 h
        obtain ⟨h1, h2⟩ := and2 h
        have e := of_decide_eq_true h1
        subst e
        exact ⟨se_cmp hc (sE a hc h3).1 (sE b hc h4).1 (marks_ok h2 _), st_cmp hc (sE a hc h3).1 (sE b hc h4).1 (marks_ok h2 _)⟩
      | [], _, h => exact no h
      | _ :: _ :: _, _, h => exact no h
      | [_], [], h => exact no h
      | [_], _ :: _ :: _, h => exact no h
    | _ => exact no h
  | .isn m a, sc, e, X, hc, h => by
    cases e with
    | Compare l ops cs p =>
      match ops, cs, h with
      | [o], [r], h =>
        cases r with
        | Constant k j p2 =>
          cases k with
          | none =>
            obtain ⟨h1, h2⟩ := and2 h
            have e := of_decide_eq_true h1
            subst e
            exact ⟨se_isn (sE a hc h2).1, st_isn (sE a hc h2).1⟩
          | _ => exact no h
        | _ => exact no h
      | [], _, h => exact no h
      | _ :: _ :: _, _, h => exact no h
      | [_], [], h => exact no h
      | [_], x :: _ :: _, h =>
        cases x with
        | Constant k j p2 => cases k <;> exact no h
        | _ => exact no h
    | _ => exact no h
  | .chn o1 o2 a b c, sc, e, X, hc, h => by
    cases e with
    | Compare l ops cs p =>
      match ops, cs, h with
      | [o, o'], [r, s], h =>
        obtain ⟨h, h6⟩ := and2 h
        obtain ⟨h, h5⟩ := and2 h
        obtain ⟨h, h4⟩ := and2 h
        obtain ⟨h, h3⟩ := and2 h
        obtain ⟨h1, h2⟩ := and2 h
        have e1 := of_decide_eq_true h1
        have e2 := of_decide_eq_true h2
        subst e1 e2
        have hm : lastMarks [copA o1, copA o2] [r, s] = false := marks_ok h3 _
        exact ⟨se_chn hc (sE a hc h4).1 (sE b hc h5).1 (sE c hc h6).1 hm, st_chn hc (sE a hc h4).1 (sE b hc h5).1 (sE c hc h6).1 hm⟩
      | [], _, h => exact no h
      | [_], _, h => exact no h
      | _ :: _ :: _ :: _, _, h => exact no h
      | [_, _], [], h => exact no h
      | [_, _], [_], h => exact no h
      | [_, _], _ :: _ :: _ :: _, h => exact no h
    | _ => exact no h
  | .an a b, sc, e, X, hc, h => by
    cases e with
    | BoolOp op vs p =>
      cases op with
      | And =>
        match vs, h with
        | x :: y :: rest, h =>
          obtain ⟨h1, h2⟩ := and2 h
          cases rest with
          | nil => exact ⟨se_an (sE a hc h1).1 (se_one (sE b hc h2).1), sw_st (sw_and (sE a hc h1).2 (sw_one_and (sE b hc h2).2))⟩
          | cons z rest => exact ⟨se_an (sE a hc h1).1 (sAnd b p hc h2).1, sw_st (sw_and (sE a hc h1).2 (sAnd b p hc h2).2)⟩
        | [], h => exact no h
        | [_], h => exact no h
      | Or => exact no h
    | _ => exact no h
  | .orr a b, sc, e, X, hc, h => by
    cases e with
    | BoolOp op vs p =>
      cases op with
      | Or =>
        match vs, h with
        | x :: y :: rest, h =>
          obtain ⟨h1, h2⟩ := and2 h
          cases rest with
          | nil => exact ⟨se_or (sE a hc h1).1 (se_one (sE b hc h2).1), sw_st (sw_or (sE a hc h1).2 (sw_one_or (sE b hc h2).2))⟩
          | cons z rest => exact ⟨se_or (sE a hc h1).1 (sOr b p hc h2).1, sw_st (sw_or (sE a hc h1).2 (sOr b p hc h2).2)⟩
        | [], h => exact no h
        | [_], h => exact no h
      | And => exact no h
    | _ => exact no h
  | .ite t a b, sc, e, X, hc, h => by
    cases e with
    | IfExp et ea eb p =>
      obtain ⟨h, h3⟩ := and2 h
      obtain ⟨h1, h2⟩ := and2 h
      exact ⟨se_ite (sE t hc h1).2 (sE a hc h2).1 (sE b hc h3).1, st_ite (sE t hc h1).2 (sE a hc h2).2 (sE b hc h3).2⟩
    | _ => exact no h
  | .tup es, sc, e, X, hc, h => by
    cases e with
    | Tuple ees k p =>
      have z : SE X C (.tup es) (.Tuple ees k p) := se_tup (sEs es hc h)
      exact ⟨z, st_plain z fun _ => rfl⟩
    | _ => exact no h
  | .lst es, sc, e, X, hc, h => by
    cases e with
    | List ees p =>
      have z : SE X C (.lst es) (.List ees p) := se_lst (sEs es hc h)
      exact ⟨z, st_plain z fun _ => rfl⟩
    | _ => exact no h
  | .idx a b, sc, e, X, hc, h => by
    cases e with
    | Subscript l r p =>
      obtain ⟨h, h3⟩ := and2 h
      obtain ⟨h1, h2⟩ := and2 h
      have z : SE X C (.idx a b) (.Subscript l r p) := se_idx (sE a hc h2).1 (sE b hc h3).1 h1
      exact ⟨z, st_plain z fun _ => rfl⟩
    | _ => exact no h
  | .slc a lo hi, sc, e, X, hc, h => by
    cases e with
    | Subscript l r p =>
      cases r with
      | Slice elo ehi st p2 =>
        cases st with
        | none =>
          obtain ⟨h, h3⟩ := and2 h
          obtain ⟨h1, h2⟩ := and2 h
          have z : SE X C (.slc a lo hi) (.Subscript l (.Slice elo ehi none p2) p) := se_slc (sE a hc h1).1 (sO lo hc h2) (sO hi hc h3)
          exact ⟨z, st_plain z fun _ => rfl⟩
        | some s => exact no h
      | _ => exact no h
    | _ => exact no h
  | .call g as, sc, e, X, hc, h => by
    cases e with
    | Call f args kws p =>
      cases f with
      | Name x p2 =>
        match args, kws, h with
        | e :: es, [], h =>
          obtain ⟨h, h3⟩ := and2 h
          obtain ⟨h1, h2⟩ := and2 h
          obtain ⟨ps, f, f1, f2, f3, f4, f5, f6⟩ := cFun_inv h1
          have z : SE X C (.call g as) (.Call (.Name x p2) (e :: es) [] p) := se_call hc (sA as hc h3) f1 f2 f3 f4 f5 f6 h2
          exact ⟨z, st_plain z fun _ => rfl⟩
        | [], _, h => exact no h
        | _ :: _, _ :: _, h => exact no h
      | _ => exact no h
    | _ => exact no h
  | .callk g es perm, sc, e, X, hc, h => by
    cases e with
    | Call f args kws p =>
      cases f with
      | Name x p2 =>
        match args, h with
        | [], h =>
          obtain ⟨h, h4⟩ := and2 h
          obtain ⟨h, h3⟩ := and2 h
          obtain ⟨h1, h2⟩ := and2 h
          obtain ⟨ps, f, f1, f2, f3, f4, f5, f6⟩ := cFun_inv h1
          have z : SE X C (.callk g es perm) (.Call (.Name x p2) [] kws p) := se_callk hc (sK es hc h4) f1 f2 f3 f4.symm (of_decide_eq_true h3) h2 f5 f6
          exact ⟨z, st_plain z fun _ => rfl⟩
        | _ :: _, h => exact no h
      | _ => exact no h
    | _ => exact no h
  | .blt b es, sc, e, X, hc, h => by
    cases e with
    | Call f args kws p =>
      cases f with
      | Name x p2 =>
        match args, kws, h with
        | e :: ees, [], h =>
          obtain ⟨h, h4⟩ := and2 h
          obtain ⟨h, h3⟩ := and2 h
          obtain ⟨h1, h2⟩ := and2 h
          have ex := of_decide_eq_true h1
          subst ex
          have z : SE X C (.blt b es) (.Call (.Name (bltN b) p2) (e :: ees) [] p) := se_blt hc (sEs es hc h4) h2 h3
          exact ⟨z, st_plain z fun _ => rfl⟩
        | [], _, h => exact no h
        | _ :: _, _ :: _, h => exact no h
      | _ => exact no h
    | _ => exact no h
  | .isi ts a, sc, e, X, hc, h => by
    cases e with
    | Call f args kws p =>
      cases f with
      | Name x p2 =>
        match args, kws, h with
        | [e, ty], [], h =>
          obtain ⟨h, h5⟩ := and2 h
          obtain ⟨h, h4⟩ := and2 h
          obtain ⟨h, h3⟩ := and2 h
          obtain ⟨h1, h2⟩ := and2 h
          have ex := of_decide_eq_true h1
          subst ex
          have z : SE X C (.isi ts a) (.Call (.Name "isinstance" p2) [e, ty] [] p) := by
            cases ty with
            | Name y p3 =>
              match ts, h4 with
              | [t], h4 =>
                obtain ⟨k1, k2⟩ := and2 h4
                have ey := of_decide_eq_true k1
                subst ey
                exact se_isi1 hc (sE a hc h5).1 h3 h2 k2
              | [], h4 => exact no h4
              | _ :: _ :: _, h4 => exact no h4
            | Tuple es k p3 =>
              obtain ⟨k1, k2⟩ := and2 h4
              exact se_isiT hc (sE a hc h5).1 h3 h2 k1 (of_decide_eq_true k2)
            | _ => exact no h4
          exact ⟨z, st_plain z fun _ => rfl⟩
        | [], _, h => exact no h
        | [_], _, h => exact no h
        | _ :: _ :: _ :: _, _, h => exact no h
        | [_, _], _ :: _, h => exact no h
      | _ => exact no h
    | _ => exact no h
  | .lc own tg it cnd elt, sc, e, X, hc, h => by
    cases e with
    | ListComp eelt gs scope p =>
      match gs, h with
      | [⟨etg, eit, ifs, 0⟩], h =>
        obtain ⟨h, h6⟩ := and2 h
        obtain ⟨h, h5⟩ := and2 h
        obtain ⟨h, h4⟩ := and2 h
        obtain ⟨h, h3⟩ := and2 h
        obtain ⟨h1, h2⟩ := and2 h
        obtain ⟨o1, o2, o3⟩ := cOwn_inv h1
        have hf : ∀ b : Blk, SF (PF.Cx.bk X scope b) C cnd ifs := fun b => by
          match ifs, h5 with
          | [], h5 =>
            have e := isYes_inv h5
            subst e
            exact sf_nil
          | [e], h5 => exact sf_one (sE cnd (cn_blk hc scope _ _ _ _ _) h5).2
          | _ :: _ :: _, h5 => exact no h5
        have z : SE X C (.lc own tg it cnd elt) (.ListComp eelt [⟨etg, eit, ifs, 0⟩] scope p) := se_lc hc o1 o2 o3 (sI it hc h3) (fun b => sG tg (cn_blk hc scope _ _ _ _ _) h4) hf (fun b => (sE elt (cn_blk hc scope _ _ _ _ _) h6).1) h2
        exact ⟨z, st_plain z fun _ => rfl⟩
      | [], h => exact no h
      | [⟨_, _, _, (k + 1 : Nat)⟩], h => exact no h
      | [⟨_, _, _, Int.negSucc k⟩], h => exact no h
      | ⟨_, _, _, k⟩ :: _ :: _, h =>
        cases k with
        | ofNat m => cases m <;> exact no h
        | negSucc m => exact no h
    | _ => exact no h
  | .lc2 own own1 tg it tg1 it1 cnd elt, sc, e, X, hc, h => by
    cases e with
    | ListComp eelt gs scope p =>
      match gs, h with
      | [⟨etg, eit, [], 0⟩, ⟨etg1, eit1, ifs, 0⟩], h =>
        obtain ⟨h, k12⟩ := and2 h
        obtain ⟨h, k11⟩ := and2 h
        obtain ⟨h, k10⟩ := and2 h
        obtain ⟨h, k9⟩ := and2 h
        obtain ⟨h, k8⟩ := and2 h
        obtain ⟨h, k7⟩ := and2 h
        obtain ⟨h, k6⟩ := and2 h
        obtain ⟨h, k5⟩ := and2 h
        obtain ⟨h, k4⟩ := and2 h
        obtain ⟨h, k3⟩ := and2 h
        obtain ⟨k1, k2⟩ := and2 h
        obtain ⟨o1, o2, o3⟩ := cOwn_inv k1
        have hf : ∀ b : Blk, SF (PF.Cx.bk X scope b) C cnd ifs := fun b => by
          match ifs, k11 with
          | [], k11 =>
            have e := isYes_inv k11
            subst e
            exact sf_nil
          | [e], k11 => exact sf_one (sE cnd (cn_blk hc scope _ _ _ _ _) k11).2
          | _ :: _ :: _, k11 => exact no k11
        have z : SE X C (.lc2 own own1 tg it tg1 it1 cnd elt) (.ListComp eelt [⟨etg, eit, [], 0⟩, ⟨etg1, eit1, ifs, 0⟩] scope p) :=
          se_lc2 hc o1 (of_decide_eq_true k2) o2 (fun i hi => of_decide_eq_true (List.all_eq_true.mp k3 i hi)) (fun i hi => of_decide_eq_true (List.all_eq_true.mp k4 i hi)) o3 (sI it hc k7) (fun b => sG tg (cn_blk hc scope _ _ _ _ _) k8) (fun b => sI it1 (cn_blk hc scope _ _ _ _ _) k9) (fun b => sG tg1 (cn_blk hc scope _ _ _ _ _) k10) hf (fun b => (sE elt (cn_blk hc scope _ _ _ _ _) k12).1) k5 k6
        exact ⟨z, st_plain z fun _ => rfl⟩
      | [], h => exact no h
      | [⟨_, _, l, k⟩], h =>
        cases l with
        | nil =>
          cases k with
          | ofNat m => cases m <;> exact no h
          | negSucc m => exact no h
        | cons a l => exact no h
      | [⟨_, _, _ :: _, _⟩, _], h => exact no h
      | [⟨_, _, [], (k + 1 : Nat)⟩, _], h => exact no h
      | [⟨_, _, [], Int.negSucc k⟩, _], h => exact no h
      | [⟨_, _, [], 0⟩, ⟨_, _, _, (k + 1 : Nat)⟩], h => exact no h
      | [⟨_, _, [], 0⟩, ⟨_, _, _, Int.negSucc k⟩], h => exact no h
      | ⟨_, _, l, k⟩ :: ⟨_, _, l2, k2⟩ :: _ :: _, h =>
        cases l with
        | nil =>
          cases k with
          | ofNat m =>
            cases m with
            | zero =>
              cases k2 with
              | ofNat m => cases m <;> exact no h
              | negSucc m => exact no h
            | succ m => exact no h
          | negSucc m => exact no h
        | cons a l => exact no h
    | _ => exact no h
  | .idxO i b, sc, e, X, hc, h => by
    cases e with
    | Subscript l r p =>
      cases l with
      | Name x p2 =>
        obtain ⟨h, h3⟩ := and2 h
        obtain ⟨h1, h2⟩ := and2 h
        obtain ⟨n1, n2, n3⟩ := cName_inv h2
        have z : SE X C (.idxO i b) (.Subscript (.Name x p2) r p) := se_idxO hc (sE b hc h3).1 h1 n1 n2 n3
        exact ⟨z, st_plain z fun _ => rfl⟩
      | _ => exact no h
    | _ => exact no h
  | .idxOO i b c, sc, e, X, hc, h => by
    cases e with
    | Subscript l r p =>
      cases l with
      | Subscript l2 r2 p2 =>
        cases l2 with
        | Name x p3 =>
          obtain ⟨h, h5⟩ := and2 h
          obtain ⟨h, h4⟩ := and2 h
          obtain ⟨h, h3⟩ := and2 h
          obtain ⟨h1, h2⟩ := and2 h
          obtain ⟨n1, n2, n3⟩ := cName_inv h3
          have z : SE X C (.idxOO i b c) (.Subscript (.Subscript (.Name x p3) r2 p2) r p) := se_idxOO hc (sE b hc h4).1 (sE c hc h5).1 h1 h2 n1 n2 n3
          exact ⟨z, st_plain z fun _ => rfl⟩
        | _ => exact no h
      | _ => exact no h
    | _ => exact no h
  | .lenO i, sc, e, X, hc, h => by
    cases e with
    | Call f args kws p =>
      cases f with
      | Name y p2 =>
        match args, kws, h with
        | [a], [], h =>
          cases a with
          | Name x p3 =>
            obtain ⟨h, h3⟩ := and2 h
            obtain ⟨h1, h2⟩ := and2 h
            obtain ⟨n1, n2, n3⟩ := cName_inv h3
            have ey := of_decide_eq_true h1
            subst ey
            have z : SE X C (.lenO i) (.Call (.Name "len" p2) [.Name x p3] [] p) := se_lenO hc h2 n1 n2 n3
            exact ⟨z, st_plain z fun _ => rfl⟩
          | _ => exact no h
        | [], _, h => exact no h
        | a :: _ :: _, _, h => cases a <;> exact no h
        | [a], _ :: _, h => cases a <;> exact no h
      | _ => exact no h
    | _ => exact no h
  | .mv i, sc, e, X, hc, h => by
    cases e with
    | Name x p =>
      obtain ⟨h1, h2, h3⟩ := cName_inv h
      have z : SE X C (.mv i) (.Name x p) := se_mv hc h1 h2 h3
      exact ⟨z, st_plain z fun _ => rfl⟩
    | _ => exact no h
  | .bor a, sc, e, X, hc, h => by
    have h : cE G N a sc e = true := by
      unfold cE at h
      exact h
    exact ⟨se_bor (sE a hc h).1, st_bor (sE a hc h).2⟩
  | .gc c, sc, e, X, hc, h => by
    cases e with
    | Name x p =>
      obtain ⟨h, h3⟩ := and2 h
      obtain ⟨h1, h2⟩ := and2 h
      have z : SE X C (.gc c) (.Name x p) := se_gc hc (of_decide_eq_true h1) h2 h3
      exact ⟨z, st_plain z fun _ => rfl⟩
    | _ => exact no h
  | .fm a, sc, e, X, hc, h => by
    cases e with
    | FormattedValue v k o p =>
      obtain ⟨h, h3⟩ := and2 h
      obtain ⟨h1, h2⟩ := and2 h
      have e := of_decide_eq_true h1
      subst e
      cases o with
      | none =>
        have z : SE X C (.fm a) (.FormattedValue v (-1) none p) := se_fm (sE a hc h3).1
        exact ⟨z, st_plain z fun _ => rfl⟩
      | some o => exact no h2
    | _ => exact no h
  | .js es, sc, e, X, hc, h => by
    cases e with
    | JoinedStr vs p =>
      match vs, h with
      | v1 :: v2 :: vs, h =>
        have z : SE X C (.js es) (.JoinedStr (v1 :: v2 :: vs) p) := se_js (sJ es hc h)
        exact ⟨z, st_plain z fun _ => rfl⟩
      | [], h => exact no h
      | [_], h => exact no h
    | _ => exact no h
  | .lrng a b, sc, e, X, hc, h => by
    cases e with
    | Call f args kws p =>
      cases f with
      | Name x p2 =>
        match args, kws, h with
        | [e], [], h =>
          cases e with
          | Call f3 args3 kws3 p3 =>
            cases f3 with
            | Name y p4 =>
              match args3, kws3, h with
              | [ea, eb], [], h =>
                obtain ⟨h, h8⟩ := and2 h
                obtain ⟨h, h7⟩ := and2 h
                obtain ⟨h, h6⟩ := and2 h
                obtain ⟨h, h5⟩ := and2 h
                obtain ⟨h, h4⟩ := and2 h
                obtain ⟨h, h3⟩ := and2 h
                obtain ⟨h1, h2⟩ := and2 h
                have ex := of_decide_eq_true h1
                have ey := of_decide_eq_true h2
                subst ex ey
                have z : SE X C (.lrng a b) (.Call (.Name "list" p2) [.Call (.Name "range" p4) [ea, eb] [] p3] [] p) := se_lrng hc (sE a hc h7).1 (sE b hc h8).1 h5 h6 h3 h4
                exact ⟨z, st_plain z fun _ => rfl⟩
              | [], _, h => exact no h
              | [eb], [], h =>
                obtain ⟨h, h7⟩ := and2 h
                obtain ⟨h, h6⟩ := and2 h
                obtain ⟨h, h5⟩ := and2 h
                obtain ⟨h, h4⟩ := and2 h
                obtain ⟨h, h3⟩ := and2 h
                obtain ⟨h1, h2⟩ := and2 h
                have ex := of_decide_eq_true h1
                have ey := of_decide_eq_true h2
                subst ex ey
                have ea := isZ_eq h5
                subst ea
                have z : SE X C (.lrng (.c (.int 0)) b) (.Call (.Name "list" p2) [.Call (.Name "range" p4) [eb] [] p3] [] p) := se_lrng1 hc (sE b hc h7).1 h6 h3 h4
                exact ⟨z, st_plain z fun _ => rfl⟩
              | [_], _ :: _, h => exact no h
              | _ :: _ :: _ :: _, _, h => exact no h
              | [_, _], _ :: _, h => exact no h
            | _ => exact no h
          | _ => exact no h
        | [], _, h => exact no h
        | e :: _ :: _, _, h =>
          cases e with
          | Call f3 args3 kws3 p3 =>
            cases f3 with
            | Name y p4 =>
              match args3, kws3, h with
              | [ea, eb], [], h => exact no h
              | [], _, h => exact no h
              | [_], [], h => exact no h
              | [_], _ :: _, h => exact no h
              | _ :: _ :: _ :: _, _, h => exact no h
              | [_, _], _ :: _, h => exact no h
            | _ => exact no h
          | _ => exact no h
        | [e], _ :: _, h =>
          cases e with
          | Call f3 args3 kws3 p3 =>
            cases f3 with
            | Name y p4 =>
              match args3, kws3, h with
              | [ea, eb], [], h => exact no h
              | [], _, h => exact no h
              | [_], [], h => exact no h
              | [_], _ :: _, h => exact no h
              | _ :: _ :: _ :: _, _, h => exact no h
              | [_, _], _ :: _, h => exact no h
            | _ => exact no h
          | _ => exact no h
      | _ => exact no h
    | _ => exact no h
  | .isb m b a, sc, e, X, hc, h => by
    cases e with
    | Compare l ops cs p =>
      match ops, cs, h with
      | [o], [r], h =>
        cases r with
        | Constant k j p2 =>
          cases k with
          | bool c =>
            obtain ⟨h, h3⟩ := and2 h
            obtain ⟨h1, h2⟩ := and2 h
            have e := of_decide_eq_true h1
            have e2 := of_decide_eq_true h2
            subst e e2
            exact ⟨se_isb (sE a hc h3).1, st_isb (sE a hc h3).1⟩
          | _ => exact no h
        | _ => exact no h
      | [], _, h => exact no h
      | _ :: _ :: _, _, h => exact no h
      | [_], [], h => exact no h
      | [_], x :: _ :: _, h =>
        cases x with
        | Constant k j p2 => cases k <;> exact no h
        | _ => exact no h
    | _ => exact no h
  | .lz a b, sc, e, X, hc, h => by
    cases e with
    | Call f args kws p =>
      cases f with
      | Name x p2 =>
        match args, kws, h with
        | [e], [], h =>
          cases e with
          | Call f3 args3 kws3 p3 =>
            cases f3 with
            | Name y p4 =>
              match args3, kws3, h with
              | [ea, eb], [], h =>
                obtain ⟨h, h8⟩ := and2 h
                obtain ⟨h, h7⟩ := and2 h
                obtain ⟨h, h6⟩ := and2 h
                obtain ⟨h, h5⟩ := and2 h
                obtain ⟨h, h4⟩ := and2 h
                obtain ⟨h, h3⟩ := and2 h
                obtain ⟨h1, h2⟩ := and2 h
                have ex := of_decide_eq_true h1
                have ey := of_decide_eq_true h2
                subst ex ey
                have z : SE X C (.lz a b) (.Call (.Name "list" p2) [.Call (.Name "zip" p4) [ea, eb] [] p3] [] p) := se_lz hc (sE a hc h7).1 (sE b hc h8).1 h5 h6 h3 h4
                exact ⟨z, st_plain z fun _ => rfl⟩
              | [], _, h => exact no h
              | [_], _, h => exact no h
              | _ :: _ :: _ :: _, _, h => exact no h
              | [_, _], _ :: _, h => exact no h
            | _ => exact no h
          | _ => exact no h
        | [], _, h => exact no h
        | e :: _ :: _, _, h =>
          cases e with
          | Call f3 args3 kws3 p3 =>
            cases f3 with
            | Name y p4 =>
              match args3, kws3, h with
              | [ea, eb], [], h => exact no h
              | [], _, h => exact no h
              | [_], _, h => exact no h
              | _ :: _ :: _ :: _, _, h => exact no h
              | [_, _], _ :: _, h => exact no h
            | _ => exact no h
          | _ => exact no h
        | [e], _ :: _, h =>
          cases e with
          | Call f3 args3 kws3 p3 =>
            cases f3 with
            | Name y p4 =>
              match args3, kws3, h with
              | [ea, eb], [], h => exact no h
              | [], _, h => exact no h
              | [_], _, h => exact no h
              | _ :: _ :: _ :: _, _, h => exact no h
              | [_, _], _ :: _, h => exact no h
            | _ => exact no h
          | _ => exact no h
      | _ => exact no h
    | _ => exact no h
  | .cat a b, sc, e, X, hc, h => by
    cases e with
    | BinOp l o r p =>
      obtain ⟨h, h3⟩ := and2 h
      obtain ⟨h1, h2⟩ := and2 h
      have e := of_decide_eq_true h1
      subst e
      have z : SE X C (.cat a b) (.BinOp l .Add r p) := se_cat (sE a hc h2).1 (sE b hc h3).1
      exact ⟨z, st_plain z fun _ => rfl⟩
    | _ => exact no h
  | .fnv y, sc, e, X, hc, h => by
    cases e with
    | Name x p =>
      obtain ⟨h, h4⟩ := and2 h
      obtain ⟨h, h3⟩ := and2 h
      obtain ⟨h1, h2⟩ := and2 h
      have e := of_decide_eq_true h1
      subst e
      obtain ⟨g, hg⟩ := List.mem_iff_getElem?.mp (of_decide_eq_true h2)
      have z : SE X C (.fnv y) (.Name y p) := se_fnv hc hg h3 h4
      exact ⟨z, st_plain z fun _ => rfl⟩
    | _ => exact no h
  | .callv i cs a es, sc, e, X, hc, h => by
    cases e with
    | Call f args kws p =>
      cases f with
      | Name x p2 =>
        match args, kws, h with
        | e :: ees, [], h =>
          obtain ⟨h, h5⟩ := and2 h
          obtain ⟨h, h4⟩ := and2 h
          obtain ⟨h, h3⟩ := and2 h
          obtain ⟨h1, h2⟩ := and2 h
          obtain ⟨n1, n2, n3⟩ := cName_inv h1
          have z : SE X C (.callv i cs a es) (.Call (.Name x p2) (e :: ees) [] p) := se_callv hc (sE a hc h4).1 (sEs es hc h5) (fun q hq => cV1_inv (List.all_eq_true.mp h2 q hq)) n1 n2 n3 h3
          exact ⟨z, st_plain z fun _ => rfl⟩
        | [], _, h => exact no h
        | _ :: _, _ :: _, h => exact no h
      | _ => exact no h
    | _ => exact no h
  | .popI i a, sc, e, X, hc, h => by
    cases e with
    | Call f args kws p =>
      cases f with
      | Attribute o m ap =>
        cases o with
        | Name x p2 =>
          match args, kws, h with
          | [ee], [], h =>
            obtain ⟨h, h5⟩ := and2 h
            obtain ⟨h, h4⟩ := and2 h
            obtain ⟨h, h3⟩ := and2 h
            obtain ⟨h1, h2⟩ := and2 h
            obtain ⟨n1, n2, n3⟩ := cName_inv h1
            have e := of_decide_eq_true h2
            subst e
            have z : SE X C (.popI i a) (.Call (.Attribute (.Name x p2) "pop" ap) [ee] [] p) := se_popI hc (sE a hc h5).1 h4 h3 n1 n2 n3
            exact ⟨z, st_plain z fun _ => rfl⟩
          | [], _, h => exact no h
          | _ :: _ :: _, _, h => exact no h
          | [_], _ :: _, h => exact no h
        | _ => exact no h
      | _ => exact no h
    | _ => exact no h
  | .p1 p a, sc, e, X, hc, h => by
    have h : (match p1X p sc e with | some x => cE G N a sc x | none => false) = true := by
      cases e <;> exact h
    cases hx : p1X p sc e with
    | none => rw [hx] at h; cases h
    | some x =>
      rw [hx] at h
      have z : SE X C (.p1 p a) e := se_p1 hc hx (sE a hc h).1
      rcases p1X_call hx with ⟨_, _, _, _, _, rfl⟩ | ⟨_, _, _, rfl⟩
      · exact ⟨z, st_plain z fun _ => rfl⟩
      · exact ⟨z, st_plain z fun _ => rfl⟩
  | .callt g a, sc, e, X, hc, h => by
    cases e with
    | Call f args kws p =>
      cases f with
      | Name x p2 =>
        match args, kws, h with
        | [e], [], h =>
          obtain ⟨h, h3⟩ := and2 h
          obtain ⟨h1, h2⟩ := and2 h
          obtain ⟨ps, f, f1, f2, f3, f5, f6⟩ := cFun1_inv h1
          have z : SE X C (.callt g a) (.Call (.Name x p2) [e] [] p) := se_callt hc (sE a hc h3).1 f1 f2 f3 f5 f6 h2
          exact ⟨z, st_plain z fun _ => rfl⟩
        | [], _, h => exact no h
        | _ :: _ :: _, _, h => exact no h
        | [_], _ :: _, h => exact no h
      | _ => exact no h
    | _ => exact no h
theorem sJ : ∀ (es : Es) {sc : Scope} {ees : List Expr} {X : Cx}, Cn X G C n sc N → cJ G N es sc ees = true → SJ X C es ees
  | .nil, sc, ees, X, hc, h => by
    cases ees with
    | nil => exact sj_nil
    | cons e ees => exact no h
  | .cons a as, sc, ees, X, hc, h => by
    cases ees with
    | nil => exact no h
    | cons e ees =>
      obtain ⟨h1, h2⟩ := and2 h
      exact sj_cons (sE a hc h1).1 (sJ as hc h2)
theorem sAnd : ∀ (ir : E) (pos : Pos) {sc : Scope} {es : List Expr} {X : Cx}, Cn X G C n sc N → cAnd G N ir sc es = true → SE X C ir (.BoolOp .And es pos) ∧ SW X C ir (.BoolOp .And es pos)
  | .an a b, pos, sc, es, X, hc, h => by
    match es, h with
    | x :: y :: rest, h =>
      obtain ⟨h1, h2⟩ := and2 h
      cases rest with
      | nil => exact ⟨se_an (sE a hc h1).1 (se_one (sE b hc h2).1), sw_and (sE a hc h1).2 (sw_one_and (sE b hc h2).2)⟩
      | cons z rest => exact ⟨se_an (sE a hc h1).1 (sAnd b pos hc h2).1, sw_and (sE a hc h1).2 (sAnd b pos hc h2).2⟩
    | [], h => exact no h
    | [_], h => exact no h
  | .c _, _, _, _, _, _, h => no h
  | .v _, _, _, _, _, _, h => no h
  | .bin _ _ _, _, _, _, _, _, h => no h
  | .neg _, _, _, _, _, _, h => no h
  | .nt _, _, _, _, _, _, h => no h
  | .cmp _ _ _, _, _, _, _, _, h => no h
  | .isn _ _, _, _, _, _, _, h => no h
  | .chn _ _ _ _ _, _, _, _, _, _, h => no h
  | .orr _ _, _, _, _, _, _, h => no h
  | .ite _ _ _, _, _, _, _, _, h => no h
  | .tup _, _, _, _, _, _, h => no h
  | .lst _, _, _, _, _, _, h => no h
  | .idx _ _, _, _, _, _, _, h => no h
  | .slc _ _ _, _, _, _, _, _, h => no h
  | .call _ _, _, _, _, _, _, h => no h
  | .callk _ _ _, _, _, _, _, _, h => no h
  | .blt _ _, _, _, _, _, _, h => no h
  | .isi _ _, _, _, _, _, _, h => no h
  | .lc _ _ _ _ _, _, _, _, _, _, h => no h
  | .lc2 _ _ _ _ _ _ _ _, _, _, _, _, _, h => no h
  | .idxO _ _, _, _, _, _, _, h => no h
  | .idxOO _ _ _, _, _, _, _, _, h => no h
  | .lenO _, _, _, _, _, _, h => no h
  | .mv _, _, _, _, _, _, h => no h
  | .bor _, _, _, _, _, _, h => no h
  | .gc _, _, _, _, _, _, h => no h
  | .fm _, _, _, _, _, _, h => no h
  | .js _, _, _, _, _, _, h => no h
  | .lrng _ _, _, _, _, _, _, h => no h
  | .isb _ _ _, _, _, _, _, _, h => no h
  | .callt _ _, _, _, _, _, _, h => no h
  | .p1 _ _, _, _, _, _, _, h => no h
  | .cat _ _, _, _, _, _, _, h => no h
  | .lz _ _, _, _, _, _, _, h => no h
  | .fnv _, _, _, _, _, _, h => no h
  | .callv _ _ _ _, _, _, _, _, _, h => no h
  | .popI _ _, _, _, _, _, _, h => no h
theorem sOr : ∀ (ir : E) (pos : Pos) {sc : Scope} {es : List Expr} {X : Cx}, Cn X G C n sc N → cOr G N ir sc es = true → SE X C ir (.BoolOp .Or es pos) ∧ SW X C ir (.BoolOp .Or es pos)
  | .orr a b, pos, sc, es, X, hc, h => by
    match es, h with
    | x :: y :: rest, h =>
      obtain ⟨h1, h2⟩ := and2 h
      cases rest with
      | nil => exact ⟨se_or (sE a hc h1).1 (se_one (sE b hc h2).1), sw_or (sE a hc h1).2 (sw_one_or (sE b hc h2).2)⟩
      | cons z rest => exact ⟨se_or (sE a hc h1).1 (sOr b pos hc h2).1, sw_or (sE a hc h1).2 (sOr b pos hc h2).2⟩
    | [], h => exact no h
    | [_], h => exact no h
  | .c _, _, _, _, _, _, h => no h
  | .v _, _, _, _, _, _, h => no h
  | .bin _ _ _, _, _, _, _, _, h => no h
  | .neg _, _, _, _, _, _, h => no h
  | .nt _, _, _, _, _, _, h => no h
  | .cmp _ _ _, _, _, _, _, _, h => no h
  | .isn _ _, _, _, _, _, _, h => no h
  | .chn _ _ _ _ _, _, _, _, _, _, h => no h
  | .an _ _, _, _, _, _, _, h => no h
  | .ite _ _ _, _, _, _, _, _, h => no h
  | .tup _, _, _, _, _, _, h => no h
  | .lst _, _, _, _, _, _, h => no h
  | .idx _ _, _, _, _, _, _, h => no h
  | .slc _ _ _, _, _, _, _, _, h => no h
  | .call _ _, _, _, _, _, _, h => no h
  | .callk _ _ _, _, _, _, _, _, h => no h
  | .blt _ _, _, _, _, _, _, h => no h
  | .isi _ _, _, _, _, _, _, h => no h
  | .lc _ _ _ _ _, _, _, _, _, _, h => no h
  | .lc2 _ _ _ _ _ _ _ _, _, _, _, _, _, h => no h
  | .idxO _ _, _, _, _, _, _, h => no h
  | .idxOO _ _ _, _, _, _, _, _, h => no h
  | .lenO _, _, _, _, _, _, h => no h
  | .mv _, _, _, _, _, _, h => no h
  | .bor _, _, _, _, _, _, h => no h
  | .gc _, _, _, _, _, _, h => no h
  | .fm _, _, _, _, _, _, h => no h
  | .js _, _, _, _, _, _, h => no h
  | .lrng _ _, _, _, _, _, _, h => no h
  | .isb _ _ _, _, _, _, _, _, h => no h
  | .callt _ _, _, _, _, _, _, h => no h
  | .p1 _ _, _, _, _, _, _, h => no h
  | .cat _ _, _, _, _, _, _, h => no h
  | .lz _ _, _, _, _, _, _, h => no h
  | .fnv _, _, _, _, _, _, h => no h
  | .callv _ _ _ _, _, _, _, _, _, h => no h
  | .popI _ _, _, _, _, _, _, h => no h
theorem sO : ∀ (o : Oe) {sc : Scope} {e : Option Expr} {X : Cx}, Cn X G C n sc N → cO G N o sc e = true → SO X C o e
  | .no, sc, e, X, hc, h => by
    cases e with
    | none => exact so_no
    | some e => exact no h
  | .ye a, sc, e, X, hc, h => by
    cases e with
    | none => exact no h
    | some e => exact so_ye (sE a hc h).1
theorem sEs : ∀ (es : Es) {sc : Scope} {ees : List Expr} {X : Cx}, Cn X G C n sc N → cEs G N es sc ees = true → SEs X C es ees
  | .nil, sc, ees, X, hc, h => by
    cases ees with
    | nil => exact ses_nil
    | cons e ees => exact no h
  | .cons a as, sc, ees, X, hc, h => by
    cases ees with
    | nil => exact no h
    | cons e ees =>
      obtain ⟨h, h3⟩ := and2 h
      obtain ⟨h1, h2⟩ := and2 h
      exact ses_cons (sE a hc h2).1 (sEs as hc h3) h1
theorem sK : ∀ (es : Es) {sc : Scope} {ks : List Keyword} {X : Cx}, Cn X G C n sc N → cK G N es sc ks = true → SK X C es ks
  | .nil, sc, ks, X, hc, h => by
    cases ks with
    | nil => exact sk_nil
    | cons e ees => exact no h
  | .cons a as, sc, ks, X, hc, h => by
    cases ks with
    | nil => exact no h
    | cons k ks =>
      obtain ⟨nm, e, p⟩ := k
      obtain ⟨h1, h2⟩ := and2 h
      exact sk_cons (sE a hc h1).1 (sK as hc h2)
theorem sA : ∀ (as : As) {sc : Scope} {es : List Expr} {X : Cx}, Cn X G C n sc N → cA G N as sc es = true → SA X C as es
  | .nil, sc, es, X, hc, h => by
    cases es with
    | nil => exact sa_nil
    | cons e ees => exact no h
  | .ev a as, sc, es, X, hc, h => by
    cases es with
    | nil => exact no h
    | cons e es =>
      obtain ⟨h, h3⟩ := and2 h
      obtain ⟨h1, h2⟩ := and2 h
      exact sa_ev (sE a hc h2).1 (sA as hc h3) h1
  | .io i as, sc, es, X, hc, h => by
    cases es with
    | nil => exact no h
    | cons e es =>
      cases e with
      | Name x p =>
        obtain ⟨h1, h2⟩ := and2 h
        obtain ⟨n1, n2, n3⟩ := cName_inv h1
        exact sa_io hc (sA as hc h2) n1 n2 n3
      | _ => exact no h
theorem sI : ∀ (it : It) {sc : Scope} {tg e : Expr} {X : Cx}, Cn X G C n sc N → cI G N it sc tg e = true → SI X C it tg e
  | .seq a, sc, tg, e, X, hc, h => si_seq (sE a hc h).1
  | .rng1 a, sc, tg, e, X, hc, h => by
    cases e with
    | Call f args kws p =>
      cases f with
      | Name x p2 =>
        match args, kws, h with
        | [ea], [], h =>
          obtain ⟨h, h4⟩ := and2 h
          obtain ⟨h, h3⟩ := and2 h
          obtain ⟨h1, h2⟩ := and2 h
          have ey := of_decide_eq_true h1
          subst ey
          exact si_rng1 hc (sE a hc h4).1 h3 h2
        | [], _, h => exact no h
        | _ :: _ :: _, _, h => exact no h
        | [_], _ :: _, h => exact no h
      | _ => exact no h
    | _ => exact no h
  | .rng2 a b, sc, tg, e, X, hc, h => by
    cases e with
    | Call f args kws p =>
      cases f with
      | Name x p2 =>
        match args, kws, h with
        | [ea, eb], [], h =>
          obtain ⟨h, h6⟩ := and2 h
          obtain ⟨h, h5⟩ := and2 h
          obtain ⟨h, h4⟩ := and2 h
          obtain ⟨h, h3⟩ := and2 h
          obtain ⟨h1, h2⟩ := and2 h
          have ey := of_decide_eq_true h1
          subst ey
          exact si_rng2 hc (sE a hc h5).1 (sE b hc h6).1 h3 h4 h2
        | [], _, h => exact no h
        | [_], _, h => exact no h
        | _ :: _ :: _ :: _, _, h => exact no h
        | [_, _], _ :: _, h => exact no h
      | _ => exact no h
    | _ => exact no h
  | .enum a, sc, tg, e, X, hc, h => by
    cases tg with
    | Tuple ts k tp =>
      cases e with
      | Call f args kws p =>
        cases f with
        | Name x p2 =>
          match args, kws, h with
          | [ea], [], h =>
            obtain ⟨h, h4⟩ := and2 h
            obtain ⟨h, h3⟩ := and2 h
            obtain ⟨h1, h2⟩ := and2 h
            have ey := of_decide_eq_true h1
            subst ey
            exact si_enum hc (sE a hc h4).1 h3 h2
          | [], _, h => exact no h
          | _ :: _ :: _, _, h => exact no h
          | [_], _ :: _, h => exact no h
        | _ => exact no h
      | _ => exact no h
    | _ => exact no h
  | .zip a b, sc, tg, e, X, hc, h => by
    cases tg with
    | Tuple ts k tp =>
      cases e with
      | Call f args kws p =>
        cases f with
        | Name x p2 =>
          match args, kws, h with
          | [ea, eb], [], h =>
            obtain ⟨h, h6⟩ := and2 h
            obtain ⟨h, h5⟩ := and2 h
            obtain ⟨h, h4⟩ := and2 h
            obtain ⟨h, h3⟩ := and2 h
            obtain ⟨h1, h2⟩ := and2 h
            have ey := of_decide_eq_true h1
            subst ey
            exact si_zip hc (sE a hc h5).1 (sE b hc h6).1 h3 h4 h2
          | [], _, h => exact no h
          | [_], _, h => exact no h
          | _ :: _ :: _ :: _, _, h => exact no h
          | [_, _], _ :: _, h => exact no h
        | _ => exact no h
      | _ => exact no h
    | _ => exact no h
  | .zip3 a b c, sc, tg, e, X, hc, h => by
    cases tg with
    | Tuple ts k tp =>
      cases e with
      | Call f args kws p =>
        cases f with
        | Name x p2 =>
          match args, kws, h with
          | [ea, eb, ec], [], h =>
            obtain ⟨h, h8⟩ := and2 h
            obtain ⟨h, h7⟩ := and2 h
            obtain ⟨h, h6⟩ := and2 h
            obtain ⟨h, h5⟩ := and2 h
            obtain ⟨h, h4⟩ := and2 h
            obtain ⟨h, h3⟩ := and2 h
            obtain ⟨h1, h2⟩ := and2 h
            have ey := of_decide_eq_true h1
            subst ey
            exact si_zip3 hc (sE a hc h6).1 (sE b hc h7).1 (sE c hc h8).1 h3 h4 h5 h2
          | [], _, h => exact no h
          | [_], _, h => exact no h
          | [_, _], _, h => exact no h
          | _ :: _ :: _ :: _ :: _, _, h => exact no h
          | [_, _, _], _ :: _, h => exact no h
        | _ => exact no h
      | _ => exact no h
    | _ => exact no h
end
end
end PF

/-! PF, fifteenth part: the checker for statements and defs; a whole text. -/
namespace PF
open PySem PySem.Spec PyProof.Rows L2
def inComp (scope : Scope) (y : Str) : Bool := scope.names.any fun (n, k) => n == y && (k == .local || k == .cell)
def cPar (sc : Scope) (fs : List (Nat × Bool)) (ts vs : List Expr) : Bool := match swapO (fun x => sc.names.lookup x) ts vs with
  | none => false
  | some none => true
  | some (some names) => (match fs, ts, vs with
    | [(i, _), (j, _)], [.Name x _, .Name y _], [_, _] => decide (names = [x, y]) && decide (i ≠ j) && decide (sc.names.lookup x = some .local) && decide (sc.names.lookup y = some .local)
    | [(i, _), (j, _), (l, _)], [.Name x _, .Name y _, .Name z _], [_, _, _] => decide (names = [x, y, z]) && decide (i ≠ j) && decide (i ≠ l) && decide (j ≠ l) && decide (sc.names.lookup x = some .local) && decide (sc.names.lookup y = some .local) && decide (sc.names.lookup z = some .local)
    | _, _, _ => false)
def cLc (N : List Str) (sc : Scope) (keep : List Nat) (t : T) (tg ee : Expr) : Bool := match t, tg, ee with
  | .nm j, .Name y py, .ListComp _ _ scope pos => decide (N[j]? = some y) && decide (j ∉ keep) && (decide (sc.names.lookup y = some .cell) || (decide (sc.names.lookup y = some .local) && (py.line == pos.line) && !inComp scope y))
  | _, _, _ => false
def isBor : E → Bool
  | .bor _ => true
  | _ => false
def cAsg (N : List Str) (sc : Scope) (keep : List Nat) (f : Bool) (t : T) (tg ee : Expr) : Bool := asgOk tg ee && (keep.all fun i => decide (i ∉ t.slots)) && (match f with
  | true => cT N sc t tg
  | false => (match t, tg with
    | .nm i, .Name x _ => decide (N[i]? = some x) && locC sc x
    | _, _ => false))
mutual
def cS (G : Prg) (N : List Str) (sc : Scope) (keep : List Nat) : S → Stmt → Bool
  | .asg f t e, .Assign [tg] ee _ => cE G N e sc ee && (match isLC ee with
    | true => !isBor e && cLc N sc keep t tg ee
    | false => cAsg N sc keep f t tg ee)
  | .par fs es, .Assign [.Tuple ts _ _] (.Tuple vs _ _) _ => cEs G N es sc vs && parT sc N fs ts && kindOks ts && decide (ts.length = fs.length) && decide (fs.length ≤ 100) && (keep.all fun i => fs.all fun p => decide (p.1 ≠ i)) && cPar sc fs ts vs
  | .setO i a e, .Assign [.Subscript (.Name x _) ea _] ee _ => cName N sc i x && kindOk ea && !isLC ee && cE G N e sc ee && cE G N a sc ea
  | .setOO i a b e, .Assign [.Subscript (.Subscript (.Name x _) ea _) eb _] ee _ => cName N sc i x && kindOk ea && kindOk eb && !isLC ee && cE G N e sc ee && cE G N a sc ea && cE G N b sc eb
  | .appO i e, .Expr (.Call (.Attribute (.Name x _) m ap) [ee] [] cp) _ => cName N sc i x && decide (m = "append") && (ap.endLine == cp.line) && kindOk ee && cE G N e sc ee
  | .extO i e, .Expr (.Call (.Attribute (.Name x _) m ap) [ee] [] cp) _ => cName N sc i x && decide (m = "extend") && (ap.endLine == cp.line) && kindOk ee && cE G N e sc ee
  | .popO i, .Expr (.Call (.Attribute (.Name x _) m ap) [] [] cp) _ => cName N sc i x && decide (m = "pop") && (ap.endLine == cp.line)
  | .appOO i a e, .Expr (.Call (.Attribute (.Subscript (.Name x _) ea _) m ap) [ee] [] cp) _ => cName N sc i x && decide (m = "append") && (ap.endLine == cp.line) && kindOk ea && kindOk ee && cE G N a sc ea && cE G N e sc ee
  | .extOO i a e, .Expr (.Call (.Attribute (.Subscript (.Name x _) ea _) m ap) [ee] [] cp) _ => cName N sc i x && decide (m = "extend") && (ap.endLine == cp.line) && kindOk ea && kindOk ee && cE G N a sc ea && cE G N e sc ee
  | .appOT i a b e, .Expr (.Call (.Attribute (.Subscript (.Subscript (.Name x _) ea _) eb _) m ap) [ee] [] cp) _ => cName N sc i x && decide (m = "append") && (ap.endLine == cp.line) && kindOk ea && kindOk eb && kindOk ee && cE G N a sc ea && cE G N b sc eb && cE G N e sc ee
  | .ex e, .Expr ee _ => !isLC ee && cE G N e sc ee
  | .iff t a b, .If et sa sb _ => cE G N t sc et && cSs G N sc keep a sa && cSs G N sc keep b sb
  | .whl t b, .While et sb [] _ => cE G N t sc et && cSs G N sc keep b sb
  | .for_ t it b, .For tg ei sb [] _ => cI G N it sc tg ei && cT N sc t tg && kindOk ei && (keep.all fun i => decide (i ∉ t.slots)) && cSs G N sc keep b sb
  | .ret e, .Return (some ee) _ => cE G N e sc ee
  | .retn, .Return none _ => true
  | .pas, .Pass _ => true
  | .brk, .Break _ => true
  | .cnt, .Continue _ => true
  | _, _ => false
def cSs (G : Prg) (N : List Str) (sc : Scope) (keep : List Nat) : Ss → List Stmt → Bool
  | .nil, [] => true
  | .cons s ss, sts => (match s with
    | .frz _ => cSs G N sc keep ss sts
    | _ => (match sts with
      | [] => false
      | st :: sts => cS G N sc keep s st && cSs G N sc keep ss sts))
  | _, _ => false
end
section
variable {G : Prg} {C : Ctx} {n : Nat} {N : List Str} {sc : Scope} {keep : List Nat}
theorem not_inv {b : Bool} (h : (!b) = true) : b = false := by simpa using h
theorem all_ne {t : T} (h : (keep.all fun i => decide (i ∉ t.slots)) = true) : ∀ i ∈ keep, i ∉ t.slots := fun i hi => of_decide_eq_true (List.all_eq_true.mp h i hi)
theorem cAsg_ok {X : Cx} (hc : Cn X G C n sc N) {f : Bool} {t : T} {e : E} {tg ee : Expr} {pos : Pos} (he : SE X C e ee) (h : cAsg N sc keep f t tg ee = true) : SS X C keep (.asg f t e) (.Assign [tg] ee pos) := by
  obtain ⟨h, h3⟩ := and2 h
  obtain ⟨h1, h2⟩ := and2 h
  have hk := all_ne h2
  cases f with
  | true => exact ss_asgF he (sG t hc h3) h1 hk
  | false =>
    cases t with
    | nm i =>
      cases tg with
      | Name x p =>
        obtain ⟨k1, k2⟩ := and2 h3
        exact ss_asgO hc he (of_decide_eq_true k1) k2 h1 fun j hj e => hk j hj (by rw [e]; exact List.mem_cons_self)
      | _ => exact no h3
    | tp ts => exact no h3
theorem cLc_ok {X : Cx} (hc : Cn X G C n sc N) (hsc : X.env.scope = sc) {f : Bool} {t : T} {e : E} {tg ee : Expr} {pos : Pos} (hce : cE G N e sc ee = true) (hnb : isBor e = false) (h : cLc N sc keep t tg ee = true) : SS X C keep (.asg f t e) (.Assign [tg] ee pos) := by
  cases t with
  | tp ts => exact no h
  | nm j =>
    cases tg with
    | Name y py =>
      cases ee with
      | ListComp eelt gs scope p =>
        obtain ⟨h, h3⟩ := and2 h
        obtain ⟨h1, h2⟩ := and2 h
        have hj := of_decide_eq_true h1
        have hk : ∀ i ∈ keep, i ≠ j := fun i hi e => of_decide_eq_true h2 (e ▸ hi)
        rcases Bool.or_eq_true_iff.mp h3 with h4 | h4
        · exact ss_lcC hc (sE e hc hce).1 hj (of_decide_eq_true h4) hk
        · obtain ⟨h4, h7⟩ := and2 h4
          obtain ⟨h5, h6⟩ := and2 h4
          have hl := of_decide_eq_true h5
          have ha : (scope.names.any fun (n, k) => n == y && (k == .local || k == .cell)) = false := by
            have : inComp scope y = false := by simpa using h7
            exact this
          cases e with
          | lc own tg it cnd elt =>
            match gs, hce with
            | [⟨etg, eit, ifs, 0⟩], h =>
              obtain ⟨h, k6⟩ := and2 h
              obtain ⟨h, k5⟩ := and2 h
              obtain ⟨h, k4⟩ := and2 h
              obtain ⟨h, k3⟩ := and2 h
              obtain ⟨k1, k2⟩ := and2 h
              obtain ⟨o1, o2, o3⟩ := cOwn_inv k1
              have hf : ∀ b : Blk, SF (PF.Cx.bk X scope b) C cnd ifs := fun b => by
                match ifs, k5 with
                | [], k5 =>
                  have e := isYes_inv k5
                  subst e
                  exact sf_nil
                | [e], k5 => exact sf_one (sE cnd (cn_blk hc scope _ _ _ _ _) k5).2
                | _ :: _ :: _, k5 => exact no k5
              exact ss_lcF hc hsc o1 o2 o3 (sI it hc k3) (fun b => sG tg (cn_blk hc scope _ _ _ _ _) k4) hf (fun b => (sE elt (cn_blk hc scope _ _ _ _ _) k6).1) k2 hj hl h6 ha hk
            | [], h => exact no h
            | [⟨_, _, _, (k + 1 : Nat)⟩], h => exact no h
            | [⟨_, _, _, Int.negSucc k⟩], h => exact no h
            | ⟨_, _, _, k⟩ :: _ :: _, h =>
              cases k with
              | ofNat m => cases m <;> exact no h
              | negSucc m => exact no h
          | lc2 own own1 tg it tg1 it1 cnd elt =>
            match gs, hce with
            | [⟨etg, eit, [], 0⟩, ⟨etg1, eit1, ifs, 0⟩], h =>
              obtain ⟨h, k12⟩ := and2 h
              obtain ⟨h, k11⟩ := and2 h
              obtain ⟨h, k10⟩ := and2 h
              obtain ⟨h, k9⟩ := and2 h
              obtain ⟨h, k8⟩ := and2 h
              obtain ⟨h, k7⟩ := and2 h
              obtain ⟨h, k6⟩ := and2 h
              obtain ⟨h, k5⟩ := and2 h
              obtain ⟨h, k4⟩ := and2 h
              obtain ⟨h, k3⟩ := and2 h
              obtain ⟨k1, k2⟩ := and2 h
              obtain ⟨o1, o2, o3⟩ := cOwn_inv k1
              have hf : ∀ b : Blk, SF (PF.Cx.bk X scope b) C cnd ifs := fun b => by
                match ifs, k11 with
                | [], k11 =>
                  have e := isYes_inv k11
                  subst e
                  exact sf_nil
                | [e], k11 => exact sf_one (sE cnd (cn_blk hc scope _ _ _ _ _) k11).2
                | _ :: _ :: _, k11 => exact no k11
              exact ss_lc2F hc hsc o1 (of_decide_eq_true k2) o2 (fun i hi => of_decide_eq_true (List.all_eq_true.mp k3 i hi)) (fun i hi => of_decide_eq_true (List.all_eq_true.mp k4 i hi)) o3 (sI it hc k7) (fun b => sG tg (cn_blk hc scope _ _ _ _ _) k8) (fun b => sI it1 (cn_blk hc scope _ _ _ _ _) k9) (fun b => sG tg1 (cn_blk hc scope _ _ _ _ _) k10) hf (fun b => (sE elt (cn_blk hc scope _ _ _ _ _) k12).1) k5 k6 hj hl h6 ha hk
            | [], h => exact no h
            | [⟨_, _, l, k⟩], h =>
              cases l with
              | nil =>
                cases k with
                | ofNat m => cases m <;> exact no h
                | negSucc m => exact no h
              | cons a l => exact no h
            | [⟨_, _, _ :: _, _⟩, _], h => exact no h
            | [⟨_, _, [], (k + 1 : Nat)⟩, _], h => exact no h
            | [⟨_, _, [], Int.negSucc k⟩, _], h => exact no h
            | [⟨_, _, [], 0⟩, ⟨_, _, _, (k + 1 : Nat)⟩], h => exact no h
            | [⟨_, _, [], 0⟩, ⟨_, _, _, Int.negSucc k⟩], h => exact no h
            | ⟨_, _, l, k⟩ :: ⟨_, _, l2, k2⟩ :: _ :: _, h =>
              cases l with
              | nil =>
                cases k with
                | ofNat m =>
                  cases m with
                  | zero =>
                    cases k2 with
                    | ofNat m => cases m <;> exact no h
                    | negSucc m => exact no h
                  | succ m => exact no h
                | negSucc m => exact no h
              | cons a l => exact no h
          | bor a => cases hnb
          | p1 q a =>
            have hce : (match p1X q sc (.ListComp eelt gs scope p) with | some x => cE G N a sc x | none => false) = true := hce
            cases hx : p1X q sc (.ListComp eelt gs scope p) with
            | none => rw [hx] at hce; cases hce
            | some x =>
              rcases p1X_call hx with ⟨_, _, _, _, _, e⟩ | ⟨_, _, _, e⟩
              · cases e
              · cases e
          | _ => exact no hce
      | _ => exact no h
    | _ => exact no h
theorem cPar_ok {X : Cx} (hc : Cn X G C n sc N) (hsc : X.env.scope = sc) {fs : List (Nat × Bool)} {es : Es} {ts vs : List Expr} {k k2 : Nat} {p p2 pos : Pos} (he : SEs X C es vs) (hp : parT sc N fs ts = true) (hk : kindOks ts = true) (hl : ts.length = fs.length) (hz : fs.length ≤ 100) (hkp : ∀ i ∈ keep, ∀ p ∈ fs, p.1 ≠ i) (h : cPar sc fs ts vs = true) :
    SS X C keep (.par fs es) (.Assign [.Tuple ts k p] (.Tuple vs k2 p2) pos) := by
  unfold cPar at h
  cases e : swapO (fun x => sc.names.lookup x) ts vs with
  | none => rw [e] at h; exact no h
  | some o =>
    cases o with
    | none => exact ss_parN hc hsc he e hp hk hl hz hkp
    | some names =>
      rw [e] at h
      dsimp only at h
      split at h
      · obtain ⟨h, h4⟩ := and2 h
        obtain ⟨h, h3⟩ := and2 h
        obtain ⟨h1, h2⟩ := and2 h
        have en := of_decide_eq_true h1
        subst en
        obtain ⟨q1, q2⟩ := and2 hp
        obtain ⟨q1, _⟩ := and2 q1
        obtain ⟨q2, _⟩ := and2 q2
        obtain ⟨q2, _⟩ := and2 q2
        exact ss_par2 hc hsc he e (of_decide_eq_true q1) (of_decide_eq_true q2) (of_decide_eq_true h2) (of_decide_eq_true h3) (of_decide_eq_true h4) hkp
      · obtain ⟨h, h7⟩ := and2 h
        obtain ⟨h, h6⟩ := and2 h
        obtain ⟨h, h5⟩ := and2 h
        obtain ⟨h, h4⟩ := and2 h
        obtain ⟨h, h3⟩ := and2 h
        obtain ⟨h1, h2⟩ := and2 h
        have en := of_decide_eq_true h1
        subst en
        obtain ⟨q1, q2⟩ := and2 hp
        obtain ⟨q1, _⟩ := and2 q1
        obtain ⟨q2, q3⟩ := and2 q2
        obtain ⟨q2, _⟩ := and2 q2
        obtain ⟨q3, _⟩ := and2 q3
        obtain ⟨q3, _⟩ := and2 q3
        exact ss_par3 hc hsc he e (of_decide_eq_true q1) (of_decide_eq_true q2) (of_decide_eq_true q3) (of_decide_eq_true h2) (of_decide_eq_true h3) (of_decide_eq_true h4) (of_decide_eq_true h5) (of_decide_eq_true h6) (of_decide_eq_true h7) hkp
      · exact no h
mutual
theorem sS : ∀ (s : S) {st : Stmt} {X : Cx}, Cn X G C n sc N → X.env.scope = sc → cS G N sc keep s st = true → SS X C keep s st
  | .asg f t e, st, X, hc, hsc, h => by
    cases st with
    | Assign tgs ee p =>
      match tgs, h with
      | [tg], h =>
        obtain ⟨h1, h2⟩ := and2 h
        cases hl : isLC ee with
        | true =>
          rw [hl] at h2
          obtain ⟨h2, h3⟩ := and2 h2
          exact cLc_ok hc hsc h1 (not_inv h2) h3
        | false =>
          rw [hl] at h2
          exact cAsg_ok hc (sE e hc h1).1 h2
      | [], h => exact no h
      | _ :: _ :: _, h => exact no h
    | _ => exact no h
  | .par fs es, st, X, hc, hsc, h => by
    cases st with
    | Assign tgs ee p =>
      match tgs, h with
      | [tg], h =>
        cases tg with
        | Tuple ts k p1 =>
          cases ee with
          | Tuple vs k2 p2 =>
            obtain ⟨h, h7⟩ := and2 h
            obtain ⟨h, h6⟩ := and2 h
            obtain ⟨h, h5⟩ := and2 h
            obtain ⟨h, h4⟩ := and2 h
            obtain ⟨h, h3⟩ := and2 h
            obtain ⟨h1, h2⟩ := and2 h
            exact cPar_ok hc hsc (sEs es hc h1) h2 h3 (of_decide_eq_true h4) (of_decide_eq_true h5) (fun i hi p hp => of_decide_eq_true (List.all_eq_true.mp (List.all_eq_true.mp h6 i hi) p hp)) h7
          | _ => exact no h
        | _ => exact no h
      | [], h => exact no h
      | tg :: _ :: _, h => cases tg <;> exact no h
    | _ => exact no h
  | .setO i a e, st, X, hc, hsc, h => by
    cases st with
    | Assign tgs ee p =>
      match tgs, h with
      | [tg], h =>
        cases tg with
        | Subscript l r p1 =>
          cases l with
          | Name x p2 =>
            obtain ⟨h, h5⟩ := and2 h
            obtain ⟨h, h4⟩ := and2 h
            obtain ⟨h, h3⟩ := and2 h
            obtain ⟨h1, h2⟩ := and2 h
            obtain ⟨n1, n2, n3⟩ := cName_inv h1
            exact ss_setO hc (sE e hc h4).1 (sE a hc h5).1 h2 (not_inv h3) n1 n2 n3
          | _ => exact no h
        | _ => exact no h
      | [], h => exact no h
      | tg :: _ :: _, h =>
        cases tg with
        | Subscript l r p1 => cases l <;> exact no h
        | _ => exact no h
    | _ => exact no h
  | .setOO i a b e, st, X, hc, hsc, h => by
    cases st with
    | Assign tgs ee p =>
      match tgs, h with
      | [tg], h =>
        cases tg with
        | Subscript l r p1 =>
          cases l with
          | Subscript l2 r2 p2 =>
            cases l2 with
            | Name x p3 =>
              obtain ⟨h, h7⟩ := and2 h
              obtain ⟨h, h6⟩ := and2 h
              obtain ⟨h, h5⟩ := and2 h
              obtain ⟨h, h4⟩ := and2 h
              obtain ⟨h, h3⟩ := and2 h
              obtain ⟨h1, h2⟩ := and2 h
              obtain ⟨n1, n2, n3⟩ := cName_inv h1
              exact ss_setOO hc (sE e hc h5).1 (sE a hc h6).1 (sE b hc h7).1 h2 h3 (not_inv h4) n1 n2 n3
            | _ => exact no h
          | _ => exact no h
        | _ => exact no h
      | [], h => exact no h
      | tg :: _ :: _, h =>
        cases tg with
        | Subscript l r p1 =>
          cases l with
          | Subscript l2 r2 p2 => cases l2 <;> exact no h
          | _ => exact no h
        | _ => exact no h
    | _ => exact no h
  | .appO i e, st, X, hc, hsc, h => by
    cases st with
    | Expr c p =>
      cases c with
      | Call f args kws cp =>
        cases f with
        | Attribute o m ap =>
          cases o with
          | Name x p2 =>
            match args, kws, h with
            | [ee], [], h =>
              obtain ⟨h, h5⟩ := and2 h
              obtain ⟨h, h4⟩ := and2 h
              obtain ⟨h, h3⟩ := and2 h
              obtain ⟨h1, h2⟩ := and2 h
              obtain ⟨n1, n2, n3⟩ := cName_inv h1
              have em := of_decide_eq_true h2
              subst em
              exact ss_appO hc (sE e hc h5).1 h4 h3 n1 n2 n3
            | [], _, h => exact no h
            | _ :: _ :: _, _, h => exact no h
            | [_], _ :: _, h => exact no h
          | _ => exact no h
        | _ => exact no h
      | _ => exact no h
    | _ => exact no h
  | .popO i, st, X, hc, hsc, h => by
    cases st with
    | Expr c p =>
      cases c with
      | Call f args kws cp =>
        cases f with
        | Attribute o m ap =>
          cases o with
          | Name x p2 =>
            match args, kws, h with
            | [], [], h =>
              obtain ⟨h, h3⟩ := and2 h
              obtain ⟨h1, h2⟩ := and2 h
              obtain ⟨n1, n2, n3⟩ := cName_inv h1
              have em := of_decide_eq_true h2
              subst em
              exact ss_popO hc h3 n1 n2 n3
            | _ :: _, _, h => exact no h
            | [], _ :: _, h => exact no h
          | _ => exact no h
        | _ => exact no h
      | _ => exact no h
    | _ => exact no h
  | .extO i e, st, X, hc, hsc, h => by
    cases st with
    | Expr c p =>
      cases c with
      | Call f args kws cp =>
        cases f with
        | Attribute o m ap =>
          cases o with
          | Name x p2 =>
            match args, kws, h with
            | [ee], [], h =>
              obtain ⟨h, h5⟩ := and2 h
              obtain ⟨h, h4⟩ := and2 h
              obtain ⟨h, h3⟩ := and2 h
              obtain ⟨h1, h2⟩ := and2 h
              obtain ⟨n1, n2, n3⟩ := cName_inv h1
              have em := of_decide_eq_true h2
              subst em
              exact ss_extO hc (sE e hc h5).1 h4 h3 n1 n2 n3
            | [], _, h => exact no h
            | _ :: _ :: _, _, h => exact no h
            | [_], _ :: _, h => exact no h
          | _ => exact no h
        | _ => exact no h
      | _ => exact no h
    | _ => exact no h
  | .appOO i a e, st, X, hc, hsc, h => by
    cases st with
    | Expr c p =>
      cases c with
      | Call f args kws cp =>
        cases f with
        | Attribute o m ap =>
          cases o with
          | Subscript o2 ea p3 =>
            cases o2 with
            | Name x p2 =>
              match args, kws, h with
              | [ee], [], h =>
                obtain ⟨h, h7⟩ := and2 h
                obtain ⟨h, h6⟩ := and2 h
                obtain ⟨h, h5⟩ := and2 h
                obtain ⟨h, h4⟩ := and2 h
                obtain ⟨h, h3⟩ := and2 h
                obtain ⟨h1, h2⟩ := and2 h
                obtain ⟨n1, n2, n3⟩ := cName_inv h1
                have em := of_decide_eq_true h2
                subst em
                exact ss_appOO hc (sE a hc h6).1 (sE e hc h7).1 h4 h5 h3 n1 n2 n3
              | [], _, h => exact no h
              | _ :: _ :: _, _, h => exact no h
              | [_], _ :: _, h => exact no h
            | _ => exact no h
          | _ => exact no h
        | _ => exact no h
      | _ => exact no h
    | _ => exact no h
  | .extOO i a e, st, X, hc, hsc, h => by
    cases st with
    | Expr c p =>
      cases c with
      | Call f args kws cp =>
        cases f with
        | Attribute o m ap =>
          cases o with
          | Subscript o2 ea p3 =>
            cases o2 with
            | Name x p2 =>
              match args, kws, h with
              | [ee], [], h =>
                obtain ⟨h, h7⟩ := and2 h
                obtain ⟨h, h6⟩ := and2 h
                obtain ⟨h, h5⟩ := and2 h
                obtain ⟨h, h4⟩ := and2 h
                obtain ⟨h, h3⟩ := and2 h
                obtain ⟨h1, h2⟩ := and2 h
                obtain ⟨n1, n2, n3⟩ := cName_inv h1
                have em := of_decide_eq_true h2
                subst em
                exact ss_extOO hc (sE a hc h6).1 (sE e hc h7).1 h4 h5 h3 n1 n2 n3
              | [], _, h => exact no h
              | _ :: _ :: _, _, h => exact no h
              | [_], _ :: _, h => exact no h
            | _ => exact no h
          | _ => exact no h
        | _ => exact no h
      | _ => exact no h
    | _ => exact no h
  | .appOT i a b e, st, X, hc, hsc, h => by
    cases st with
    | Expr c p =>
      cases c with
      | Call f args kws cp =>
        cases f with
        | Attribute o m ap =>
          cases o with
          | Subscript o2 eb p3 =>
            cases o2 with
            | Subscript o3 ea p4 =>
              cases o3 with
              | Name x p2 =>
                match args, kws, h with
                | [ee], [], h =>
                  obtain ⟨h, h9⟩ := and2 h
                  obtain ⟨h, h8⟩ := and2 h
                  obtain ⟨h, h7⟩ := and2 h
                  obtain ⟨h, h6⟩ := and2 h
                  obtain ⟨h, h5⟩ := and2 h
                  obtain ⟨h, h4⟩ := and2 h
                  obtain ⟨h, h3⟩ := and2 h
                  obtain ⟨h1, h2⟩ := and2 h
                  obtain ⟨n1, n2, n3⟩ := cName_inv h1
                  have em := of_decide_eq_true h2
                  subst em
                  exact ss_appOT hc (sE a hc h7).1 (sE b hc h8).1 (sE e hc h9).1 h4 h5 h6 h3 n1 n2 n3
                | [], _, h => exact no h
                | _ :: _ :: _, _, h => exact no h
                | [_], _ :: _, h => exact no h
              | _ => exact no h
            | _ => exact no h
          | _ => exact no h
        | _ => exact no h
      | _ => exact no h
    | _ => exact no h
  | .ex e, st, X, hc, hsc, h => by
    cases st with
    | Expr c p =>
      obtain ⟨h1, h2⟩ := and2 h
      exact ss_ex (sE e hc h2).1 (not_inv h1)
    | _ => exact no h
  | .iff t a b, st, X, hc, hsc, h => by
    cases st with
    | If et sa sb p =>
      obtain ⟨h, h3⟩ := and2 h
      obtain ⟨h1, h2⟩ := and2 h
      exact ss_iff (sE t hc h1).2 (sSs a hc hsc h2) (sSs b hc hsc h3)
    | _ => exact no h
  | .whl t b, st, X, hc, hsc, h => by
    cases st with
    | While et sb se p =>
      cases se with
      | nil =>
        obtain ⟨h1, h2⟩ := and2 h
        exact ss_whl hc (sE t hc h1).2 (sSs b hc hsc h2)
      | cons s se => exact no h
    | _ => exact no h
  | .for_ t it b, st, X, hc, hsc, h => by
    cases st with
    | For tg ei sb se p =>
      cases se with
      | nil =>
        obtain ⟨h, h5⟩ := and2 h
        obtain ⟨h, h4⟩ := and2 h
        obtain ⟨h, h3⟩ := and2 h
        obtain ⟨h1, h2⟩ := and2 h
        exact ss_for hc (sI it hc h1) (sG t hc h2) (sSs b hc hsc h5) h3 (all_ne h4)
      | cons s se => exact no h
    | _ => exact no h
  | .ret e, st, X, hc, hsc, h => by
    cases st with
    | Return o p =>
      cases o with
      | some ee => exact ss_ret (sE e hc h).1
      | none => exact no h
    | _ => exact no h
  | .retn, st, X, hc, hsc, h => by
    cases st with
    | Return o p =>
      cases o with
      | some ee => exact no h
      | none => exact ss_retn
    | _ => exact no h
  | .frz i, st, X, hc, hsc, h => by exact no (by cases st <;> exact h)
  | .pas, st, X, hc, hsc, h => by
    cases st with
    | Pass p => exact ss_pas
    | _ => exact no h
  | .brk, st, X, hc, hsc, h => by
    cases st with
    | Break p => exact ss_brk
    | _ => exact no h
  | .cnt, st, X, hc, hsc, h => by
    cases st with
    | Continue p => exact ss_cnt
    | _ => exact no h
theorem sSs : ∀ (s : Ss) {sts : List Stmt} {X : Cx}, Cn X G C n sc N → X.env.scope = sc → cSs G N sc keep s sts = true → SSs X C keep s sts
  | .nil, sts, X, hc, hsc, h => by
    cases sts with
    | nil => exact sss_nil
    | cons s sts => exact no h
  | .cons s ss, sts, X, hc, hsc, h => by
    have key : (∃ i, s = .frz i ∧ cSs G N sc keep ss sts = true) ∨ ∃ st sts', sts = st :: sts' ∧ cS G N sc keep s st = true ∧ cSs G N sc keep ss sts' = true := by
      cases s with
      | frz i => exact .inl ⟨i, rfl, h⟩
      | _ =>
        cases sts with
        | nil => exact no h
        | cons st sts =>
          obtain ⟨h1, h2⟩ := and2 h
          exact .inr ⟨st, sts, rfl, h1, h2⟩
    rcases key with ⟨i, e, h1⟩ | ⟨st, sts', e, h1, h2⟩
    · rw [e]
      exact sss_frz (sSs ss hc hsc h1)
    · rw [e]
      exact sss_cons (sS s hc hsc h1) (sSs ss hc hsc h2)
end
end
end PF

/-! PF, sixteenth part: a def keeps the promise that the evaluator says; a whole text. -/
namespace PF
open PySem PySem.Spec PyProof.Rows L2
def cFn (G : Prg) (N ps : List Str) (f : Fn) (st : Stmt) : Bool :=
  decide ((defScope st).kind = .function) && !(defScope st).isCoroutine && !(defScope st).isGenerator && decide N.Nodup && decide (N.take ps.length = ps) && (ps.all fun x => locC (defScope st) x) && ((defScope st).names.all fun y => decide (y.2 ≠ .free)) &&
  decide (f.np = ps.length) && decide (f.ns = N.length) && decide f.io.Nodup && (f.io.all fun i => decide (i < f.np)) && cSs G N (defScope st) f.io f.body (defBody st)
structure FnC (G : Prg) (N ps : List Str) (f : Fn) (st : Stmt) : Prop where
  scope : FnScope N ps (defScope st)
  np : f.np = ps.length
  ns : f.ns = N.length
  io : f.io.Nodup
  iol : ∀ i ∈ f.io, i < f.np
  body : cSs G N (defScope st) f.io f.body (defBody st) = true
theorem cFn_inv {G : Prg} {N ps : List Str} {f : Fn} {st : Stmt} (h : cFn G N ps f st = true) : FnC G N ps f st := by
  obtain ⟨h, h12⟩ := and2 h
  obtain ⟨h, h11⟩ := and2 h
  obtain ⟨h, h10⟩ := and2 h
  obtain ⟨h, h9⟩ := and2 h
  obtain ⟨h, h8⟩ := and2 h
  obtain ⟨h, h7⟩ := and2 h
  obtain ⟨h, h6⟩ := and2 h
  obtain ⟨h, h5⟩ := and2 h
  obtain ⟨h, h4⟩ := and2 h
  obtain ⟨h, h3⟩ := and2 h
  obtain ⟨h1, h2⟩ := and2 h
  refine ⟨⟨of_decide_eq_true h1, not_inv h2, not_inv h3, of_decide_eq_true h4, of_decide_eq_true h5, fun x hx => ?_, fun y hy => of_decide_eq_true (List.all_eq_true.mp h7 y hy)⟩, of_decide_eq_true h8, of_decide_eq_true h9, of_decide_eq_true h10, fun i hi => of_decide_eq_true (List.all_eq_true.mp h11 i hi), h12⟩
  have z := List.all_eq_true.mp h6 x hx
  unfold locC at z
  split at z
  · rename_i e; exact .inl e
  · rename_i e; exact .inr e
  · exact no z
theorem runFn_len {C : Ctx} {f : Fn} {args : List OV} {r : OV × List OV} (h : runFn C f args = some r) : args.length = f.np := of_decide_eq_true (gd_inv h).1
theorem startA {f : Fn} {as : List OA} {N : List Str} (hl : as.length = f.np) (hn : f.ns = N.length) : Rel (L2.start N (as.map OA.v)) (startE f (OA.os as)) (as.map some ++ List.replicate (f.ns - f.np) none) := by
  refine ⟨?_, ?_, fun i x h => ?_⟩
  · unfold erase startE
    rw [List.map_append, List.map_replicate, OA.os_map, List.map_map, List.map_map]
    rfl
  · unfold L2.start
    simp only [List.length_append, List.length_map, List.length_replicate]
    omega
  · unfold L2.start
    by_cases hi : i < as.length
    · rw [List.getElem?_append_left (by simpa using hi)] at h
      rw [List.getElem?_append_left (by simpa using hi)]
      rw [List.getElem?_map] at h
      rw [List.getElem?_map, List.getElem?_map]
      cases e : as[i]? with
      | none => rw [e] at h; cases h
      | some y =>
        rw [e] at h
        have ey : y = x := by simpa using h
        rw [ey]
        rfl
    · rw [List.getElem?_append_right (by simpa using hi), List.getElem?_replicate] at h
      split at h <;> cases h
theorem tr_start {as : List OA} {k : Nat} : tr (as.map some ++ List.replicate k none) = as := by
  unfold tr
  rw [List.filterMap_append]
  have h1 : (as.map some).filterMap id = as := by
    rw [List.filterMap_map]
    show as.filterMap some = as
    exact List.filterMap_some
  have h2 : (List.replicate k (none : Option OA)).filterMap id = [] := by
    induction k with
    | zero => rfl
    | succ k ih => rw [List.replicate_succ, List.filterMap_cons]; exact ih
  rw [h1, h2, List.append_nil]
/-- the lists that were handed in, as they stand at the end -/
theorem outs_of {σ : L2.St} {ρ : Env} {α : An} (R : Rel σ ρ α) {vs : List V} : ∀ {is : List Nat} {outs : List OV}, outsOf ρ is = some outs → (∀ i ∈ is, σ[i]? = (vs.map some)[i]?) → OA.os (keepT α is) = outs ∧ (keepT α is).map OA.v = ioV is vs
  | [], outs, h, _ => by cases h; exact ⟨rfl, rfl⟩
  | i :: is, outs, h, hv => by
    obtain ⟨xs, e1, h⟩ := b1_inv (show b1 (getL ρ i) _ = some outs from h)
    obtain ⟨os, e2, h⟩ := b1_inv h
    cases h
    obtain ⟨t, g1, g2, g3⟩ := R.slot (getL_inv e1)
    obtain ⟨k1, k2⟩ := outs_of R e2 fun j hj => hv j (List.mem_cons_of_mem _ hj)
    have et : treeAt α i = [t] := by unfold treeAt; rw [g1]
    have ev : vs[i]? = some t.v := by
      have := hv i List.mem_cons_self
      rw [g3, List.getElem?_map] at this
      cases e : vs[i]? with
      | none => rw [e] at this; cases this
      | some u =>
        rw [e] at this
        have : t.v = u := by simpa using this
        rw [this]
    refine ⟨?_, ?_⟩
    · show OA.os (treeAt α i ++ keepT α is) = _
      rw [et]
      show t.o :: OA.os (keepT α is) = _
      rw [k1, g2]
    · show (treeAt α i ++ keepT α is).map OA.v = _
      rw [et]
      show t.v :: (keepT α is).map OA.v = _
      rw [k2]
      unfold ioV
      rw [List.filterMap_cons, ev]
section
variable {P : Program} {w : World} {K : PySem.W.Frag} {mg : Str → Option Value} {base : Heap} {G : Prg}
theorem fn_sound {C : Ctx} {n : Nat} {x : Str} {N ps : List Str} {f : Fn} {st : Stmt} {dvs : List V} {kws : List (Str × V)} {fa : Addr} {fd : FuncData} (F : FunD K x x (defArgs st) (defBody st) (defScope st) dvs kws fa fd) (hF : FnC G N ps f st) (hp : Pr P w K mg base G C n) :
    FnOkG P w K mg base (n + 1) fa fd ps (spF K (runFn C f) f) := by
  refine FnOkG.of F hF.scope (fun vs H Q E h => ?_) (fun cdv A outer s H vs Q E gu hr h => ⟨_, PSs.nox wss_pss, ?_⟩)
  · obtain ⟨_, _, _, _, _, _, h2, _⟩ := h
    rw [h2, hF.np]
  · obtain ⟨Hf, as, τ, r, outs, rfl, hl, w0, he, hq⟩ := h
    obtain ⟨_, he⟩ := gd_inv he
    obtain ⟨fl, e1, he⟩ := b1_inv he
    have hc : Cn (cxOf L2.CX0 P w K mg base N x (defScope st) fa cdv A outer s H E).nox G C n (defScope st) N :=
      ⟨rfl, hF.scope.nd, rfl, rfl, fun y k h _ => h, fun y h => .inr h, fun y _ => rfl, hr, gu, hp⟩
    have hl' : as.length = f.np := by rw [← hl, List.length_map]
    have R := startA (N := N) hl' hF.ns
    refine sSs f.body hc rfl hF.body (startE f (OA.os as)) fl e1 (L2.start N (as.map OA.v)) H Hf _ τ R (by rw [tr_start]; exact w0) _ ?_
    have fin : ∀ {σ' : L2.St} {H' Hf' : Hp} {α' : An} {x' : OA} {ρ' : Env}, Same Hf Hf' → Rel σ' ρ' α' → outsOf ρ' f.io = some outs → x'.o = r → WR K Hf' H' (x' :: (tr α' ++ τ)) → Kp f.io (L2.start N (as.map OA.v)) σ' → Q x'.v H' := by
      intro σ' H' Hf' α' x' ρ' s1 R1 eo ex w1 k1
      obtain ⟨o1, o2⟩ := outs_of R1 (vs := as.map OA.v) eo fun i hi => by
        rw [k1 i hi]
        unfold L2.start
        rw [List.getElem?_append_left]
        rw [List.length_map, List.length_map, hl']
        exact hF.iol i hi
      refine hq H' Hf' x' (keepT α' f.io) s1 ex o1 o2 ?_
      have p := (keep_perm (α := α') hF.io).append_right τ
      have w2 : WR K Hf' H' (x' :: ((keepT α' f.io ++ tr (wipA α' f.io)) ++ τ)) := w1.perm (p.cons x')
      have w3 : WR K Hf' H' (tr (wipA α' f.io) ++ (x' :: (keepT α' f.io ++ τ))) := w2.perm (by
        refine List.Perm.trans ?_ perm_mid.symm
        refine List.Perm.cons x' ?_
        rw [← List.append_assoc]
        exact List.Perm.append_right τ List.perm_append_comm)
      exact w3.right
    cases fl with
    | rt o ρ' =>
      obtain ⟨os, e2, he⟩ := b1_inv (show b1 (outsOf ρ' f.io) _ = some (r, outs) from he)
      cases he
      exact fun σ' H' Hf' α' x' s1 R1 ex w1 k1 => fin s1 R1 e2 ex w1 k1
    | nx ρ' =>
      obtain ⟨os, e2, he⟩ := b1_inv (show b1 (outsOf ρ' f.io) _ = some (r, outs) from he)
      cases he
      exact fun σ' H' Hf' α' s1 R1 w1 k1 => fin (x' := .fz .non .none) s1 R1 e2 rfl (w1.addF .non) k1
    | bk ρ' => cases he
    | ct ρ' => cases he
/-! ### the whole text -/
def defName (s : Stmt) : Str := match s with
  | .FunctionDef x _ _ _ _ _ _ _ _ _ => x
  | _ => ""
def parsOf (s : Stmt) : List Str := (defArgs s).args.map (·.arg)
/-- how plain arguments come to a def's parameters -/
def BindOk (st : Stmt) : Prop := ∀ (kV doc pm : Value) (an : Option Addr) (cdv ct : Value) (us : List Value), us.length = (parsOf st).length → bindArgs (PySem.W.fnOf (defName st) (defName st) (defArgs st) (defBody st) (defScope st) .none kV doc pm an cdv ct) ⟨us, []⟩ = pure ((parsOf st).zip us)
/-- .. by keywords alone -/
def KwOk (st : Stmt) (ks : List Str) (perm : List Nat) : Prop := ∀ (kV doc pm : Value) (an : Option Addr) (cdv ct : Value) (ws : List Value), (perm.filterMap fun i => ws[i]?).length = (parsOf st).length →
  bindArgs (PySem.W.fnOf (defName st) (defName st) (defArgs st) (defBody st) (defScope st) .none kV doc pm an cdv ct) ⟨[], ks.zip ws⟩ = pure ((parsOf st).zip (perm.filterMap fun i => ws[i]?))
/-- what the top has left of the defs -/
structure Top (K : PySem.W.Frag) (mg : Str → Option Value) (sts : List Stmt) (cs : List (Str × Cst)) : Prop where
  fn : ∀ (g : Nat) (st : Stmt), sts[g]? = some st → ∃ fa fd, mg (defName st) = some (.ref fa) ∧ FunD K (defName st) (defName st) (defArgs st) (defBody st) (defScope st) [] [] fa fd
  ga : ∀ (g : Nat) (st : Stmt), sts[g]? = some st → mg (defName st) = some (.ref (He.ga K (defName st)))
  free : ∀ x ∈ blts, mg x = none
  cst : ∀ x c, (x, c) ∈ cs → ∃ u v, mg x = some u ∧ RelV v u ∧ ∀ H, Dp K H v c.d
/-- a text of defs, its form in the small language -/
structure Txt where
  sts : List Stmt
  fns : List Fn
  Ns : List (List Str)
  kws : List (Nat × List Str × List Nat)
  cs : List (Str × Cst)
def Txt.prg (t : Txt) : Prg := ⟨t.sts.map defName, t.sts.map parsOf, t.fns, t.kws, t.cs⟩
def cAll (G : Prg) : List Stmt → List Fn → List (List Str) → Bool
  | [], [], [] => true
  | st :: sts, f :: fs, N :: Ns => cFn G N (parsOf st) f st && cAll G sts fs Ns
  | _, _, _ => false
def Txt.chk (t : Txt) : Bool := cAll t.prg t.sts t.fns t.Ns
theorem cAll_at {G : Prg} : ∀ {sts : List Stmt} {fs : List Fn} {Ns : List (List Str)} {g : Nat} {st : Stmt} {f : Fn}, cAll G sts fs Ns = true → sts[g]? = some st → fs[g]? = some f → ∃ N, cFn G N (parsOf st) f st = true
  | [], _, _, g, _, _, _, h, _ => by simp at h
  | st :: sts, [], _, g, _, _, _, _, h => by simp at h
  | st :: sts, f :: fs, [], g, _, _, h, _, _ => no h
  | st :: sts, f :: fs, N :: Ns, 0, st', f', h, h1, h2 => by
    have e1 : st = st' := by simpa using h1
    have e2 : f = f' := by simpa using h2
    subst e1 e2
    exact ⟨N, (and2 h).1⟩
  | st :: sts, f :: fs, N :: Ns, g + 1, st', f', h, h1, h2 => cAll_at (and2 h).2 (by simpa using h1) (by simpa using h2)
def AllB : List Stmt → Prop
  | [] => True
  | st :: sts => BindOk st ∧ AllB sts
theorem AllB.at_ : ∀ {sts : List Stmt} {g : Nat} {st : Stmt}, AllB sts → sts[g]? = some st → BindOk st
  | [], g, _, _, h => by simp at h
  | st :: sts, 0, st', h, e => by
    have e : st = st' := by simpa using e
    subst e
    exact h.1
  | st :: sts, g + 1, st', h, e => AllB.at_ h.2 (by simpa using e)
def AllK (sts : List Stmt) : List (Nat × List Str × List Nat) → Prop
  | [] => True
  | (g, ks, perm) :: r => (∀ st, sts[g]? = some st → KwOk st ks perm) ∧ AllK sts r
theorem AllK.at_ {sts : List Stmt} : ∀ {l : List (Nat × List Str × List Nat)} {g : Nat} {ks : List Str} {perm : List Nat} {st : Stmt}, AllK sts l → (g, ks, perm) ∈ l → sts[g]? = some st → KwOk st ks perm
  | [], _, _, _, _, _, h, _ => absurd h List.not_mem_nil
  | (g', ks', perm') :: r, g, ks, perm, st, a, h, e => by
    rcases List.mem_cons.mp h with h | h
    · cases h
      exact a.1 st e
    · exact AllK.at_ a.2 h e
theorem txt_sound {t : Txt} (hk : t.chk = true) (hb : AllB t.sts) (hkw : AllK t.sts t.kws) (T : Top K mg t.sts t.cs) (W : Nat) : ∀ n : Nat, Pr P w K mg base t.prg ⟨evF t.fns W n, W⟩ n := by
  have parts : ∀ (g : Nat) (nm : Str) (ps : List Str) (f : Fn), t.prg.names[g]? = some nm → t.prg.pars[g]? = some ps → t.prg.fns[g]? = some f → ∃ st fa fd N, nm = defName st ∧ ps = parsOf st ∧ mg nm = some (.ref fa) ∧ FunD K (defName st) (defName st) (defArgs st) (defBody st) (defScope st) [] [] fa fd ∧
      FnC t.prg N (parsOf st) f st ∧ Binds K fd ps [] ∧ ∀ ks perm, (g, ks, perm) ∈ t.prg.kws → ∀ (s : Shared) (ws : List Value), (perm.filterMap fun i => ws[i]?).length = ps.length → BindsTo s fd ⟨[], ks.zip ws⟩ (ps.zip (perm.filterMap fun i => ws[i]?)) := by
    intro g nm ps f h1 h2 h3
    have h1 : (t.sts.map defName)[g]? = some nm := h1
    have h2 : (t.sts.map parsOf)[g]? = some ps := h2
    rw [List.getElem?_map] at h1 h2
    cases e : t.sts[g]? with
    | none => rw [e] at h1; cases h1
    | some st =>
      rw [e] at h1 h2
      have e1 : defName st = nm := by simpa using h1
      have e2 : parsOf st = ps := by simpa using h2
      subst e1 e2
      obtain ⟨fa, fd, m1, F⟩ := T.fn g st e
      obtain ⟨N, c⟩ := cAll_at hk e h3
      refine ⟨st, fa, fd, N, rfl, rfl, m1, F, cFn_inv c, F.bindsN (hb.at_ e), fun ks perm hm s ws hl => ?_⟩
      have kw := hkw.at_ hm e
      obtain ⟨oc, od, dV, kV, doc, pm, an, cdv, ct, osl, rfl, lk, hcd, hD, hK⟩ := F.ex
      rcases hD with ⟨_, rfl⟩ | ⟨e, _⟩
      · exact .of_eq (kw kV doc pm an cdv ct ws hl)
      · exact absurd rfl e
  have hga : ∀ (g : Nat) (nm : Str), t.prg.names[g]? = some nm → mg nm = some (.ref (He.ga K nm)) := by
    intro g nm h1
    have h1 : (t.sts.map defName)[g]? = some nm := h1
    rw [List.getElem?_map] at h1
    cases e : t.sts[g]? with
    | none => rw [e] at h1; cases h1
    | some st =>
      rw [e] at h1
      have e1 : defName st = nm := by simpa using h1
      rw [← e1]
      exact T.ga g st e
  intro n
  induction n with
  | zero =>
    refine ⟨fun g nm ps f h1 h2 h3 => ?_, T.free, T.cst, fun g f os r _ h => (by cases h), hga⟩
    obtain ⟨st, fa, fd, N, e1, e2, m1, F, hF, hB, hK⟩ := parts g nm ps f h1 h2 h3
    refine ⟨fa, fd, m1, F.kp, hB, ⟨fun vs H Q E h => ?_, fun A outer s H args us vs Q E _ _ _ _ _ h => ?_⟩, hK⟩
    · obtain ⟨_, _, _, _, _, _, _, _, h, _⟩ := h
      cases h
    · obtain ⟨_, _, _, _, _, _, _, _, h, _⟩ := h
      cases h
  | succ n ih =>
    have ev : ∀ (g : Nat) (f : Fn), t.fns[g]? = some f → evF t.fns W (n + 1) g = runFn ⟨evF t.fns W n, W⟩ f := fun g f h => by
      funext args
      show b1 t.fns[g]? _ = _
      rw [h]
      rfl
    refine ⟨fun g nm ps f h1 h2 h3 => ?_, T.free, T.cst, fun g f os r h1 h => ?_, hga⟩
    · obtain ⟨st, fa, fd, N, e1, e2, m1, F, hF, hB, hK⟩ := parts g nm ps f h1 h2 h3
      refine ⟨fa, fd, m1, F.kp, hB, ?_, hK⟩
      show FnOkG P w K mg base (n + 1) fa fd ps (spF K (evF t.fns W (n + 1) g) f)
      rw [ev g f h3, e2]
      exact fn_sound F hF ih
    · have h : evF t.fns W (n + 1) g os = some r := h
      rw [ev g f h1] at h
      exact runFn_len h
end
end PF

/-! PF, seventeenth part: from the head to the law. -/
namespace PF
open PySem PySem.Spec PyProof.Rows L2
def mkD (st : Stmt) : He.DefD := ⟨(defName st, none), defName st, defName st, defArgs st, defBody st, defScope st, [], []⟩
def faC : Str × Cst → He.Fa
  | (x, .str z) => .str x z
  | (x, .int i) => .int x i
  | (x, .tup _) => .glo x
def caB : CA → Value → Bool
  | .non, .none => true
  | .int i, .int j _ => decide (i = j)
  | .str z, .str y _ => decide (z = y)
  | _, _ => false
def casB : List CA → List Value → Bool
  | [], [] => true
  | c :: cs, v :: vs => caB c v && casB cs vs
  | _, _ => false
theorem caB_ok {K : PySem.W.Frag} {c : CA} {u : Value} (h : caB c u = true) : ∃ v, RelV v u ∧ ∀ H, Dp K H v c.d := by
  cases c with
  | non =>
    cases u with
    | none => exact ⟨.non, rfl, fun _ => .non⟩
    | _ => cases h
  | int i =>
    cases u with
    | int j t =>
      have e := of_decide_eq_true h
      subst e
      exact ⟨.int i, ⟨_, rfl⟩, fun _ => .int i⟩
    | _ => cases h
  | str z =>
    cases u with
    | str y t =>
      have e := of_decide_eq_true h
      subst e
      exact ⟨.str z, ⟨_, rfl⟩, fun _ => .str z⟩
    | _ => cases h
theorem casB_ok {K : PySem.W.Frag} : ∀ {cs : List CA} {us : List Value}, casB cs us = true → ∃ vs, Vals vs us ∧ ∀ H, DpAll K H vs (cs.map CA.d)
  | [], [], _ => ⟨[], .nil, fun _ => .nil⟩
  | [], _ :: _, h => by cases h
  | _ :: _, [], h => by cases h
  | c :: cs, u :: us, h => by
    obtain ⟨h1, h2⟩ := and2 h
    obtain ⟨v, r, d⟩ := caB_ok (K := K) h1
    obtain ⟨vs, rs, ds⟩ := casB_ok (K := K) h2
    exact ⟨v :: vs, .cons r rs, fun H => .cons (d H) (ds H)⟩
/-- the tuple that a name of the top holds -/
def tupB (K : PySem.W.Frag) (x : Str) (cs : List CA) : Bool := match K.lookup (He.ga K x) with
  | some ⟨.type c, _, .seq its _, _⟩ => decide (c = "tuple") && (decide (its.size ≤ 1000) && casB cs its.toList)
  | _ => false
theorem tupB_ok {K : PySem.W.Frag} {x : Str} {cs : List CA} (h : tupB K x cs = true) : ∀ H, Dp K H (.ref (He.ga K x)) (.tuple (cs.map CA.d)) := by
  unfold tupB at h
  cases q : K.lookup (He.ga K x) with
  | none => rw [q] at h; cases h
  | some o =>
    obtain ⟨oc, od, dt, osl⟩ := o
    rw [q] at h
    cases oc with
    | type c =>
      cases dt with
      | seq its n =>
        obtain ⟨h1, h2⟩ := and2 h
        obtain ⟨h2, h3⟩ := and2 h2
        have e := of_decide_eq_true h1
        subst e
        obtain ⟨vs, r, d⟩ := casB_ok (K := K) h3
        exact fun H => .tup (.inr ⟨_, its, n, q, rfl, rfl, Nat.le_trans (of_decide_eq_true h2) (by decide), r⟩) (d H)
      | _ => cases h
    | _ => cases h
def cstB (K : PySem.W.Frag) : Str × Cst → Bool
  | (x, .tup cs) => tupB K x cs
  | _ => true
def exB (cs : List (Str × Cst)) (K : PySem.W.Frag) : Bool := cs.all (cstB K)
/-- the head's facts, and what the tuples at its top hold -/
structure SaysE (fa : List He.Fa) (fn : List He.DefD) (cs : List (Str × Cst)) (K : PySem.W.Frag) : Prop where
  d : He.SaysD fa fn K
  e : exB cs K = true
abbrev AlE : Type := He.AlD × Bool
def obsE (n : Nat) (fa : List He.Fa) (fn : List He.DefD) (cs : List (Str × Cst)) (g : Addr → Option Obj) : AlE := (He.obsDG n fa fn g, exB cs (He.frG g (He.asD g n)))
def hookE (n : Nat) (fa : List He.Fa) (fn : List He.DefD) (cs : List (Str × Cst)) : PySem.W.Hook where
  α := AlE
  obs := fun s => obsE n fa fn cs s.heap.get?
  val := fun _ => (He.valD fn, true)
  says := fun _ h => ∃ K : PySem.W.Frag, K.In h ∧ SaysE fa fn cs K
  of := fun _ _ e => ⟨_, He.frG_in, ⟨congrArg (fun z : AlE => z.1) e, congrArg (fun z : AlE => z.2) e⟩⟩
  keeps := fun _ _ _ ⟨K, hK, c⟩ k => ⟨K, PySem.W.Frag.In.keeps hK k, c⟩
theorem obsE_eq {n : Nat} {fa : List He.Fa} {fn : List He.DefD} {cs : List (Str × Cst)} {g : Addr → Option Obj} {s : Shared} (h : ∀ a, g a = s.heap.get? a) : obsE n fa fn cs g = (hookE n fa fn cs).obs s := by
  have e : g = s.heap.get? := funext h
  rw [e] <;> rfl
def faOf (sts : List Stmt) (cs : List (Str × Cst)) : List He.Fa := sts.map (fun st => .glo (defName st)) ++ (blts.map He.Fa.free ++ cs.map faC)
def fnsOf (sts : List Stmt) : List He.DefD := sts.map mkD
theorem top_of {K : PySem.W.Frag} {h : Heap} {mg : Str → Option Value} {sts : List Stmt} {cs : List (Str × Cst)} (X : K.In h) (G : h.Ns mainGlobals mg) (cc : SaysE (faOf sts cs) (fnsOf sts) cs K) : Top K mg sts cs := by
  have c := cc.d
  refine ⟨fun g st e => ?_, fun g st e => ?_, fun x hx => ?_, fun x k hx => ?_⟩
  · have e1 : (fnsOf sts)[g]? = some (mkD st) := by
      unfold fnsOf
      rw [List.getElem?_map, e]
      rfl
    obtain ⟨fd, F⟩ := c.def_ g e1
    have e2 : He.Fa.glo (defName st) ∈ faOf sts cs := List.mem_append_left _ (List.mem_map.mpr ⟨st, List.mem_of_getElem? e, rfl⟩)
    exact ⟨_, fd, He.glo_ok X G (c.facts e2), F⟩
  · have e2 : He.Fa.glo (defName st) ∈ faOf sts cs := List.mem_append_left _ (List.mem_map.mpr ⟨st, List.mem_of_getElem? e, rfl⟩)
    exact He.glo_ok X G (c.facts e2)
  · have e2 : He.Fa.free x ∈ faOf sts cs := List.mem_append_right _ (List.mem_append_left _ (List.mem_map.mpr ⟨x, hx, rfl⟩))
    exact He.free_ok X G (c.facts e2)
  · have e2 : faC (x, k) ∈ faOf sts cs := List.mem_append_right _ (List.mem_append_right _ (List.mem_map.mpr ⟨_, hx, rfl⟩))
    have e3 := c.facts e2
    cases k with
    | str z =>
      obtain ⟨t, e⟩ := He.str_ok X G e3
      exact ⟨_, .str z, e, ⟨_, rfl⟩, fun _ => .str z⟩
    | int i =>
      obtain ⟨t, e⟩ := He.int_ok X G e3
      exact ⟨_, .int i, e, ⟨_, rfl⟩, fun _ => .int i⟩
    | tup xs => exact ⟨_, .ref (He.ga K x), He.glo_ok X G e3, rfl, tupB_ok (List.all_eq_true.mp cc.e (x, .tup xs) hx)⟩
def intsOf (ns : List Int) : D := .list (ns.map .int)
theorem dpa_ns {K : PySem.W.Frag} {H : Hp} : ∀ ns : List Int, DpAll K H (ns.map V.int) (ns.map .int)
  | [] => .nil
  | i :: ns => .cons (.int i) (dpa_ns ns)
/-- what is left to show of a law: the evaluator's answer -/
structure LawOk (t : Txt) (g : Nat) (st : Stmt) (f : Fn) (x : Str) (W n : Nat) : Prop where
  chk : t.chk = true
  bind : AllB t.sts
  kws : AllK t.sts t.kws
  atS : t.sts[g]? = some st
  fn : t.fns[g]? = some f
  nm : defName st = "law"
  ps : parsOf st = [x]
  io : f.io = []
  ev : ∀ ns : List Int, ns.length ≤ 63 → evF t.fns W (n + 1) g [.fz (intsOf ns)] = some (.fz (.bool true), [])
theorem law_F {P : Program} {t : Txt} {g : Nat} {st : Stmt} {f : Fn} {x : Str} {W n : Nat} (L : LawOk t g st f x W n) (w : World) (mg : Str → Option Value) (fa : Addr) (h : Heap) (Y : ∃ K : PySem.W.Frag, K.In h ∧ SaysE (faOf t.sts t.cs) (fnsOf t.sts) t.cs K) (hn : h.Ns mainGlobals mg) (hm : mg "law" = some (.ref fa)) :
    ∃ (K : PySem.W.Frag) (fd : FuncData) (sp : Sp), K.In h ∧ (∀ (s : Shared) (u : Value), BindsTo s fd ⟨[u], []⟩ [(x, u)]) ∧
        (∀ (H : Hp) (a : Addr) (ns : List Int), ns.length ≤ 63 → Only H → SqL K H a (ns.map V.int) → sp [.ref a] H (fun v _ => v = .bl true) fun _ _ _ => False) ∧
        ∀ base : Heap, K.In base → base.Ns mainGlobals mg → FnOkG P w K mg base (n + 1) fa fd [x] sp := by
  obtain ⟨K, KX, c⟩ := Y
  have T := top_of KX hn c
  obtain ⟨fa', fd, m1, F⟩ := T.fn g st L.atS
  rw [L.nm, hm] at m1
  cases m1
  obtain ⟨N, c⟩ := cAll_at L.chk L.atS L.fn
  have hF := cFn_inv c
  have ev : evF t.fns W (n + 1) g = runFn ⟨evF t.fns W n, W⟩ f := by
    funext args
    show b1 t.fns[g]? _ = _
    rw [L.fn]
    rfl
  have hb := L.bind.at_ L.atS
  refine ⟨K, fd, spF K (evF t.fns W (n + 1) g) f, KX, fun s u => ?_, fun H a ns hl _ hS => ?_, fun base _ _ => ?_⟩
  · have := F.bindsA (ps := parsOf st) hb s [u] (by rw [L.ps]; rfl)
    rw [L.ps] at this
    exact this
  · refine ⟨H, [.fz (.ref a) (intsOf ns)], [], .fz (.bool true), [], rfl, ?_, ⟨Same.refl _, ⟨.lst hS (dpa_ns ns), trivial⟩, List.nodup_nil⟩, L.ev ns hl, fun H' Hf' y bs s1 ey eb vb w2 => ?_⟩
    · rw [hF.np, L.ps]
      rfl
    · obtain ⟨v, rfl⟩ := oa_fz ey
      exact dp_bool w2.dpf
  · rw [ev, ← L.ps]
    exact fn_sound F hF (txt_sound L.chk L.bind L.kws T W n)
end PF

/-! PF: the evaluator once more, in a form that simp walks from the outside: what comes behind is not looked at before its turn. -/
namespace PF
open PySem
inductive Tg {α : Type} (a : α) : Type where
  | mk
def xd {α β γ : Type} (o : Option (α × β)) (k : α → β → Option γ) (_ : Tg k) : Option γ := bd o k
def x1 {α γ : Type} (o : Option α) (k : α → Option γ) (_ : Tg k) : Option γ := b1 o k
def xg {γ : Type} (b : Bool) (k : Option γ) (_ : Tg k) : Option γ := gd b k
def xs {γ : Type} (b : Bool) (x y : Option γ) (_ : Tg x) (_ : Tg y) : Option γ := match b with
  | true => x
  | false => y
def xi {γ : Type} (d : D) (k : Int → Option γ) (_ : Tg k) : Option γ := match d with
  | .int i => k i
  | _ => none
def xn {γ : Type} (d : D) (x y : Option γ) (_ : Tg x) (_ : Tg y) : Option γ := match d with
  | .none => x
  | _ => y
def xf (f : Fl) (k : Env → Option Fl) (_ : Tg k) : Option Fl := match f with
  | .nx ρ => k ρ
  | .rt o ρ => some (.rt o ρ)
  | .bk ρ => some (.bk ρ)
  | .ct ρ => some (.ct ρ)
def xz {γ : Type} (o : OV) (k : D → Option γ) (_ : Tg k) : Option γ := match o with
  | .fz d => k d
  | _ => none
def xl {γ : Type} (o : OV) (k : List OV → Option γ) (_ : Tg k) : Option γ := match o with
  | .ol d => k d
  | _ => none
def xnd {γ : Type} (d : D) (k : D → Option γ) (_ : Tg k) : Option γ := match d with
  | .dict _ => none
  | d => k d
def xb {γ : Type} (d : D) (k : Bool → Option γ) (_ : Tg k) : Option γ := match d with
  | .bool i => k i
  | _ => none
def isbV (m b c : Bool) : Bool := if m then !decide (c = b) else decide (c = b)
def itemsD : D → Option (List D)
  | .list ds => some ds
  | .tuple ds => some ds
  | .str z => some (chars z)
  | _ => none
def listD : D → Option (List D)
  | .list ds => some ds
  | .tuple ds => some ds
  | _ => none
def noOuts (r : OV) (ρ : Env) : List OV → Option (OV × Env)
  | [] => some (r, ρ)
  | _ => none
mutual
def xE (C : Ctx) : E → Env → Option (OV × Env)
  | .c d, ρ => some (.fz d, ρ)
  | .v i, ρ => x1 (getF ρ i) (fun d => some (.fz d, ρ)) .mk
  | .bin op a b, ρ => xd (xE C a ρ) (fun x ρ1 => xd (xE C b ρ1) (fun y ρ2 => x1 (binD op x.d y.d) (fun r => some (r, ρ2)) .mk) .mk) .mk
  | .neg a, ρ => xd (xE C a ρ) (fun x ρ1 => xi x.d (fun i => some (.fz (.int (-i)), ρ1)) .mk) .mk
  | .nt a, ρ => xd (xE C a ρ) (fun x ρ1 => x1 (truD x.d) (fun t => some (.fz (.bool (!t)), ρ1)) .mk) .mk
  | .cmp op a b, ρ => xd (xE C a ρ) (fun x ρ1 => xd (xE C b ρ1) (fun y ρ2 => x1 (cmpD op x.d y.d) (fun r => some (.fz (.bool r), ρ2)) .mk) .mk) .mk
  | .isn n a, ρ => xd (xE C a ρ) (fun x ρ1 => xn x.d (some (.fz (.bool (!n)), ρ1)) (some (.fz (.bool n), ρ1)) .mk .mk) .mk
  | .chn o1 o2 a b c, ρ => xd (xE C a ρ) (fun x ρ1 => xd (xE C b ρ1) (fun y ρ2 => x1 (cmpD o1 x.d y.d) (fun r => xs r (xd (xE C c ρ2) (fun z ρ3 => x1 (cmpD o2 y.d z.d) (fun r' => some (.fz (.bool r'), ρ3)) .mk) .mk) (some (.fz (.bool false), ρ2)) .mk .mk) .mk) .mk) .mk
  | .an a b, ρ => xd (xE C a ρ) (fun x ρ1 => x1 (truD x.d) (fun t => xs t (xE C b ρ1) (some (x, ρ1)) .mk .mk) .mk) .mk
  | .orr a b, ρ => xd (xE C a ρ) (fun x ρ1 => x1 (truD x.d) (fun t => xs t (some (x, ρ1)) (xE C b ρ1) .mk .mk) .mk) .mk
  | .ite t a b, ρ => xd (xE C t ρ) (fun x ρ1 => x1 (truD x.d) (fun t => xs t (xE C a ρ1) (xE C b ρ1) .mk .mk) .mk) .mk
  | .tup es, ρ => xd (xEs C es ρ) (fun xs ρ1 => xg (decide (xs.length ≤ SZ)) (some (mkTup xs, ρ1)) .mk) .mk
  | .lst es, ρ => xd (xEs C es ρ) (fun xs ρ1 => xg (decide (xs.length ≤ SZ)) (some (.ol xs, ρ1)) .mk) .mk
  | .idx a b, ρ => xd (xE C a ρ) (fun x ρ1 => xd (xE C b ρ1) (fun y ρ2 => x1 (idxD x.d y.d) (fun r => some (.fz r, ρ2)) .mk) .mk) .mk
  | .slc a lo hi, ρ => xd (xE C a ρ) (fun x ρ1 => xd (xO C lo ρ1) (fun l ρ2 => xd (xO C hi ρ2) (fun h ρ3 => x1 (optI l) (fun l => x1 (optI h) (fun h => x1 (slcD x.d l h) (fun r => some (r, ρ3)) .mk) .mk) .mk) .mk) .mk) .mk
  | .call g as, ρ => xd (xA C as ρ) (fun xs ρ1 => x1 (resolve ρ1 xs) (fun os => xd (C.call g os) (fun r outs => x1 (putBack (slotsOf xs) outs (wipeE ρ1 (slotsOf xs))) (fun ρ2 => some (r, ρ2)) .mk) .mk) .mk) .mk
  | .callk g es perm, ρ => xd (xEs C es ρ) (fun xs ρ1 => x1 (permD perm xs) (fun os => xd (C.call g (fzs (OV.ds os))) (fun r outs => noOuts r ρ1 outs) .mk) .mk) .mk
  | .blt b es, ρ => xd (xEs C es ρ) (fun xs ρ1 => x1 (bltD b (OV.ds xs)) (fun r => some (r, ρ1)) .mk) .mk
  | .isi ts a, ρ => xd (xE C a ρ) (fun x ρ1 => xnd x.d (fun d => some (.fz (.bool (ts.any fun t => isTy t d)), ρ1)) .mk) .mk
  | .lc own tg it cnd elt, ρ => xd (xI C it ρ) (fun ds ρ1 => xd (evL (fun d ρ' => x1 (bindT tg d (wipC ρ' own)) (fun ρa => xd (xE C cnd ρa) (fun b ρb => x1 (truD b.d) (fun t => xs t (xd (xE C elt ρb) (fun x ρc => some ([x], ρc)) .mk) (some ([], ρb)) .mk .mk) .mk) .mk) .mk) ds ρ1) (fun os ρ2 => xg (decide (os.length < SZ)) (some (.ol os, backE ρ1 ρ2 own)) .mk) .mk) .mk
  | .lc2 own own1 tg it tg1 it1 cnd elt, ρ => xd (xI C it ρ) (fun ds ρ1 => xd (evL (fun d ρ' => x1 (bindT tg d (wipC ρ' own)) (fun ρa => xd (xI C it1 ρa) (fun ds1 ρb => evL (fun d1 ρ'' => x1 (bindT tg1 d1 (wipC ρ'' own1)) (fun ρc => xd (xE C cnd ρc) (fun b ρd => x1 (truD b.d) (fun t => xs t (xd (xE C elt ρd) (fun x ρe => some ([x], ρe)) .mk) (some ([], ρd)) .mk .mk) .mk) .mk) .mk) ds1 ρb) .mk) .mk) ds ρ1) (fun os ρ2 => xg (decide (os.length < SZ)) (some (.ol os, backE ρ1 ρ2 own)) .mk) .mk) .mk
  | .idxO i b, ρ => x1 (getL ρ i) (fun _ => xd (xE C b ρ) (fun y ρ1 => x1 (getL ρ1 i) (fun xs => xi y.d (fun k => x1 (atD xs k) (fun o => xz o (fun d => some (.fz d, ρ1)) .mk) .mk) .mk) .mk) .mk) .mk
  | .idxOO i b c, ρ => x1 (getL ρ i) (fun _ => xd (xE C b ρ) (fun y ρ1 => x1 (getL ρ1 i) (fun xs => xi y.d (fun k => x1 (atD xs k) (fun o => xl o (fun ys => xd (xE C c (ρ1.set i none)) (fun z ρ2 => xi z.d (fun l => x1 (atD ys l) (fun p => xz p (fun d => some (.fz d, ρ2.set i (some (.ol xs)))) .mk) .mk) .mk) .mk) .mk) .mk) .mk) .mk) .mk) .mk
  | .lenO i, ρ => x1 (getL ρ i) (fun xs => some (.fz (.int xs.length), ρ)) .mk
  | .mv i, ρ => x1 (get ρ i) (fun o => some (o, ρ.set i none)) .mk
  | .bor e, ρ => xd (xE C e (frE ρ)) (fun x _ => xg (immO x) (some (x, ρ)) .mk) .mk
  | .gc c, ρ => some (.fz c.d, ρ)
  | .fm e, ρ => xd (xE C e ρ) (fun x ρ1 => x1 (txtD x.d) (fun s => some (.fz (.str s), ρ1)) .mk) .mk
  | .js es, ρ => xd (xEs C es ρ) (fun xs ρ1 => x1 (catD Str.empty (OV.ds xs)) (fun s => some (.fz (.str s), ρ1)) .mk) .mk
  | .lrng a b, ρ => xd (xE C a ρ) (fun x ρ1 => xd (xE C b ρ1) (fun y ρ2 => xi x.d (fun i => xi y.d (fun j => xg (rgOk i j) (some (.ol (fzs (rangeD i (j - i).toNat)), ρ2)) .mk) .mk) .mk) .mk) .mk
  | .isb m b a, ρ => xd (xE C a ρ) (fun x ρ1 => xb x.d (fun c => some (.fz (.bool (isbV m b c)), ρ1)) .mk) .mk
  | .callt g a, ρ => xd (xE C a ρ) (fun x ρ1 => xd (C.call g [x]) (fun r _ => some (r, ρ1)) .mk) .mk
  | .p1 p a, ρ => xd (xE C a ρ) (fun x ρ1 => x1 (p1D p x.d) (fun r => some (r, ρ1)) .mk) .mk
  | .cat a b, ρ => xd (xE C a ρ) (fun x ρ1 => xd (xE C b ρ1) (fun y ρ2 => xl x (fun xs => xl y (fun ys => xg (decide (xs.length + ys.length ≤ SZ)) (some (.ol (xs ++ ys), ρ2)) .mk) .mk) .mk) .mk) .mk
  | .lz a b, ρ => xd (xE C a ρ) (fun x ρ1 => xd (xE C b ρ1) (fun y ρ2 => x1 (lzD x.d y.d) (fun r => some (r, ρ2)) .mk) .mk) .mk
  | .fnv x, ρ => some (.fz (fnD x), ρ)
  | .callv i cs e es, ρ => x1 (getF ρ i) (fun d => x1 (fnN d) (fun x => x1 (cs.lookup x) (fun g => xd (xE C e ρ) (fun y ρ1 => xd (xEs C es ρ1) (fun ys ρ2 => xd (C.call g (.fz y.d :: fzs (OV.ds ys))) (fun r outs => noOuts r ρ2 outs) .mk) .mk) .mk) .mk) .mk) .mk
  | .popI i e, ρ => x1 (getL ρ i) (fun _ => xd (xE C e ρ) (fun y ρ1 => x1 (getL ρ1 i) (fun xs => popK i xs y.d ρ1) .mk) .mk) .mk
def xO (C : Ctx) : Oe → Env → Option (Option D × Env)
  | .no, ρ => some (none, ρ)
  | .ye e, ρ => xd (xE C e ρ) (fun x ρ1 => some (some x.d, ρ1)) .mk
def xEs (C : Ctx) : Es → Env → Option (List OV × Env)
  | .nil, ρ => some ([], ρ)
  | .cons e es, ρ => xd (xE C e ρ) (fun x ρ1 => xd (xEs C es ρ1) (fun xs ρ2 => some (x :: xs, ρ2)) .mk) .mk
def xA (C : Ctx) : As → Env → Option (List Ag × Env)
  | .nil, ρ => some ([], ρ)
  | .ev e as, ρ => xd (xE C e ρ) (fun x ρ1 => xd (xA C as ρ1) (fun xs ρ2 => some (.inl (.fz x.d) :: xs, ρ2)) .mk) .mk
  | .io i as, ρ => x1 (getL ρ i) (fun _ => xd (xA C as ρ) (fun xs ρ2 => xg (decide (i ∉ slotsOf xs)) (some (.inr i :: xs, ρ2)) .mk) .mk) .mk
def xI (C : Ctx) : It → Env → Option (List D × Env)
  | .seq e, ρ => xd (xE C e ρ) (fun x ρ1 => x1 (itemsD x.d) (fun ds => some (ds, ρ1)) .mk) .mk
  | .rng1 a, ρ => xd (xE C a ρ) (fun x ρ1 => xi x.d (fun i => xg (rngOk i) (some (rangeD 0 i.toNat, ρ1)) .mk) .mk) .mk
  | .rng2 a b, ρ => xd (xE C a ρ) (fun x ρ1 => xd (xE C b ρ1) (fun y ρ2 => xi x.d (fun i => xi y.d (fun j => xg (rngOk i && rngOk j) (some (rangeD i (j - i).toNat, ρ2)) .mk) .mk) .mk) .mk) .mk
  | .enum a, ρ => xd (xE C a ρ) (fun x ρ1 => x1 (listD x.d) (fun ds => some (enumD 0 ds, ρ1)) .mk) .mk
  | .zip a b, ρ => xd (xE C a ρ) (fun x ρ1 => xd (xE C b ρ1) (fun y ρ2 => x1 (zipD2 x.d y.d) (fun ds => some (ds, ρ2)) .mk) .mk) .mk
  | .zip3 a b c, ρ => xd (xE C a ρ) (fun x ρ1 => xd (xE C b ρ1) (fun y ρ2 => xd (xE C c ρ2) (fun z ρ3 => x1 (zipD3 x.d y.d z.d) (fun ds => some (ds, ρ3)) .mk) .mk) .mk) .mk
end
mutual
def xS (C : Ctx) : S → Env → Option Fl
  | .asg true t e, ρ => xd (xE C e ρ) (fun x ρ1 => x1 (bindT t x.d ρ1) (fun ρ2 => some (.nx ρ2)) .mk) .mk
  | .asg false (.nm i) e, ρ => xd (xE C e ρ) (fun x ρ1 => some (.nx (ρ1.set i (some x)))) .mk
  | .asg false (.tp _) _, _ => none
  | .par fs es, ρ => xd (xEs C es ρ) (fun xs ρ1 => x1 (setPar fs xs ρ1) (fun ρ2 => some (.nx ρ2)) .mk) .mk
  | .setO i a e, ρ => xd (xE C e ρ) (fun x ρ1 => x1 (getL ρ1 i) (fun _ => xd (xE C a ρ1) (fun y ρ2 => x1 (getL ρ2 i) (fun xs => xi y.d (fun k => x1 (ixN xs.length k) (fun j => some (.nx (ρ2.set i (some (.ol (xs.set j x)))))) .mk) .mk) .mk) .mk) .mk) .mk
  | .setOO i a b e, ρ => xd (xE C e ρ) (fun x ρ1 => x1 (getL ρ1 i) (fun _ => xd (xE C a ρ1) (fun y ρ2 => x1 (getL ρ2 i) (fun xs => xi y.d (fun k => x1 (ixN xs.length k) (fun j => x1 xs[j]? (fun o => xl o (fun ys => xd (xE C b (ρ2.set i none)) (fun z ρ3 => xi z.d (fun l => x1 (ixN ys.length l) (fun m => some (.nx (ρ3.set i (some (.ol (xs.set j (.ol (ys.set m x)))))))) .mk) .mk) .mk) .mk) .mk) .mk) .mk) .mk) .mk) .mk) .mk
  | .appO i e, ρ => x1 (getL ρ i) (fun _ => xd (xE C e ρ) (fun x ρ1 => x1 (getL ρ1 i) (fun xs => xg (decide (xs.length < SZ)) (some (.nx (ρ1.set i (some (.ol (xs ++ [x])))))) .mk) .mk) .mk) .mk
  | .extO i e, ρ => x1 (getL ρ i) (fun _ => xd (xE C e ρ) (fun x ρ1 => x1 (getL ρ1 i) (fun xs => xl x (fun ys => xg (decide (xs.length + ys.length ≤ SZ)) (some (.nx (ρ1.set i (some (.ol (xs ++ ys)))))) .mk) .mk) .mk) .mk) .mk
  | .popO i, ρ => x1 (getL ρ i) (fun xs => xg (decide (0 < xs.length)) (some (.nx (ρ.set i (some (.ol xs.dropLast))))) .mk) .mk
  | .appOO i a e, ρ => x1 (getL ρ i) (fun _ => xd (xE C a ρ) (fun y ρ1 => x1 (getL ρ1 i) (fun xs => xi y.d (fun k => x1 (ixN xs.length k) (fun j => x1 xs[j]? (fun o => xl o (fun ys => xd (xE C e (ρ1.set i none)) (fun x ρ2 => xg (decide (ys.length < SZ)) (some (.nx (ρ2.set i (some (.ol (xs.set j (.ol (ys ++ [x])))))))) .mk) .mk) .mk) .mk) .mk) .mk) .mk) .mk) .mk
  | .extOO i a e, ρ => x1 (getL ρ i) (fun _ => xd (xE C a ρ) (fun y ρ1 => x1 (getL ρ1 i) (fun xs => xi y.d (fun k => x1 (ixN xs.length k) (fun j => x1 xs[j]? (fun o => xl o (fun ys => xd (xE C e (ρ1.set i none)) (fun x ρ2 => xl x (fun zs => xg (decide (ys.length + zs.length ≤ SZ)) (some (.nx (ρ2.set i (some (.ol (xs.set j (.ol (ys ++ zs)))))))) .mk) .mk) .mk) .mk) .mk) .mk) .mk) .mk) .mk) .mk
  | .appOT i a b e, ρ => x1 (getL ρ i) (fun xs => xd (xE C a (ρ.set i none)) (fun y ρ1 => xi y.d (fun k => x1 (atD xs k) (fun o => x1 (otD o) (fun ys => xd (xE C b ρ1) (fun z ρ2 => xi z.d (fun l => x1 (atD ys l) (fun p => xl p (fun zs => xd (xE C e ρ2) (fun _ ρ3 => xg (decide (zs.length < SZ)) (some (.nx ρ3)) .mk) .mk) .mk) .mk) .mk) .mk) .mk) .mk) .mk) .mk) .mk
  | .ex e, ρ => xd (xE C e ρ) (fun _ ρ1 => some (.nx ρ1)) .mk
  | .iff t a b, ρ => xd (xE C t ρ) (fun x ρ1 => x1 (truD x.d) (fun t => xs t (xSs C a ρ1) (xSs C b ρ1) .mk .mk) .mk) .mk
  | .whl t b, ρ => whlL (fun ρ => xd (xE C t ρ) (fun x ρ1 => x1 (truD x.d) (fun t => some (t, ρ1)) .mk) .mk) (fun ρ => xSs C b ρ) C.W ρ
  | .for_ t it b, ρ => xd (xI C it ρ) (fun ds ρ1 => forL (fun d ρ' => x1 (bindT t d ρ') (fun ρa => xSs C b ρa) .mk) ds ρ1) .mk
  | .ret e, ρ => xd (xE C e ρ) (fun x ρ1 => some (.rt x ρ1)) .mk
  | .retn, ρ => some (.rt (.fz .none) ρ)
  | .frz i, ρ => x1 (get ρ i) (fun o => some (.nx (ρ.set i (some (.fz o.d))))) .mk
  | .pas, ρ => some (.nx ρ)
  | .brk, ρ => some (.bk ρ)
  | .cnt, ρ => some (.ct ρ)
def xSs (C : Ctx) : Ss → Env → Option Fl
  | .nil, ρ => some (.nx ρ)
  | .cons s ss, ρ => x1 (xS C s ρ) (fun f => xf f (fun ρ1 => xSs C ss ρ1) .mk) .mk
end
mutual
theorem xE_eq (C : Ctx) : ∀ (e : E) (ρ : Env), xE C e ρ = evE C e ρ
  | .c d, ρ => rfl
  | .v i, ρ => rfl
  | .bin op a b, ρ => by simp only [xE, evE, xd, x1, xE_eq C a, xE_eq C b]
  | .neg a, ρ => by simp only [xE, evE, xd, x1, xE_eq C a] <;> rfl
  | .nt a, ρ => by simp only [xE, evE, xd, x1, xE_eq C a]
  | .cmp op a b, ρ => by simp only [xE, evE, xd, x1, xE_eq C a, xE_eq C b]
  | .isn n a, ρ => by simp only [xE, evE, xd, x1, xE_eq C a] <;> rfl
  | .chn o1 o2 a b c, ρ => by simp only [xE, evE, xd, x1, xs, xE_eq C a, xE_eq C b, xE_eq C c] <;> rfl
  | .an a b, ρ => by simp only [xE, evE, xd, x1, xs, xE_eq C a, xE_eq C b] <;> rfl
  | .orr a b, ρ => by simp only [xE, evE, xd, x1, xs, xE_eq C a, xE_eq C b] <;> rfl
  | .ite t a b, ρ => by simp only [xE, evE, xd, x1, xs, xE_eq C t, xE_eq C a, xE_eq C b] <;> rfl
  | .tup es, ρ => by simp only [xE, evE, xd, x1, xg, xEs_eq C es]
  | .lst es, ρ => by simp only [xE, evE, xd, x1, xg, xEs_eq C es]
  | .idx a b, ρ => by simp only [xE, evE, xd, x1, xE_eq C a, xE_eq C b]
  | .slc a lo hi, ρ => by simp only [xE, evE, xd, x1, xE_eq C a, xO_eq C lo, xO_eq C hi]
  | .call g as, ρ => by simp only [xE, evE, xd, x1, xA_eq C as]
  | .callk g es perm, ρ => by simp only [xE, evE, xd, x1, xEs_eq C es] <;> rfl
  | .blt b es, ρ => by simp only [xE, evE, xd, x1, xEs_eq C es]
  | .isi ts a, ρ => by simp only [xE, evE, xd, x1, xE_eq C a] <;> rfl
  | .lc own tg it cnd elt, ρ => by simp only [xE, evE, xd, x1, xs, xg, xI_eq C it, xE_eq C cnd, xE_eq C elt] <;> rfl
  | .lc2 own own1 tg it tg1 it1 cnd elt, ρ => by simp only [xE, evE, xd, x1, xs, xg, xI_eq C it, xI_eq C it1, xE_eq C cnd, xE_eq C elt] <;> rfl
  | .idxO i b, ρ => by simp only [xE, evE, xd, x1, xE_eq C b] <;> rfl
  | .idxOO i b c, ρ => by
    simp only [xE, evE, xd, x1, xi, xl, xz, xE_eq C b, xE_eq C c] <;> rfl
  | .lenO i, ρ => rfl
  | .mv i, ρ => rfl
  | .bor e, ρ => by simp only [xE, evE, xd, xg, xE_eq C e]
  | .gc c, ρ => rfl
  | .fm e, ρ => by simp only [xE, evE, xd, x1, xE_eq C e]
  | .js es, ρ => by simp only [xE, evE, xd, x1, xEs_eq C es]
  | .lrng a b, ρ => by
    simp only [xE, evE, xd, x1, xg, xE_eq C a, xE_eq C b]
    congr
    funext x ρ1
    congr
    funext y ρ2
    cases x.d <;> first | rfl | (cases y.d <;> rfl)
  | .isb m b a, ρ => by simp only [xE, evE, xd, x1, xE_eq C a] <;> rfl
  | .callt g a, ρ => by simp only [xE, evE, xd, x1, xE_eq C a]
  | .p1 p a, ρ => by simp only [xE, evE, xd, x1, xE_eq C a]
  | .cat a b, ρ => by
    simp only [xE, evE, xd, xg, xE_eq C a, xE_eq C b] <;> rfl
  | .lz a b, ρ => by simp only [xE, evE, xd, x1, xE_eq C a, xE_eq C b]
  | .fnv x, ρ => rfl
  | .callv i cs e es, ρ => by simp only [xE, evE, xd, x1, xE_eq C e, xEs_eq C es] <;> rfl
  | .popI i e, ρ => by simp only [xE, evE, xd, x1, xE_eq C e]
theorem xO_eq (C : Ctx) : ∀ (e : Oe) (ρ : Env), xO C e ρ = evO C e ρ
  | .no, ρ => rfl
  | .ye e, ρ => by simp only [xO, evO, xd, xE_eq C e]
theorem xEs_eq (C : Ctx) : ∀ (e : Es) (ρ : Env), xEs C e ρ = evEs C e ρ
  | .nil, ρ => rfl
  | .cons e es, ρ => by simp only [xEs, evEs, xd, xE_eq C e, xEs_eq C es]
theorem xA_eq (C : Ctx) : ∀ (e : As) (ρ : Env), xA C e ρ = evA C e ρ
  | .nil, ρ => rfl
  | .ev e as, ρ => by simp only [xA, evA, xd, xE_eq C e, xA_eq C as]
  | .io i as, ρ => by simp only [xA, evA, xd, x1, xg, xA_eq C as]
theorem xI_eq (C : Ctx) : ∀ (e : It) (ρ : Env), xI C e ρ = evI C e ρ
  | .seq e, ρ => by
    simp only [xI, evI, xd, x1, xE_eq C e]
    congr
    funext x ρ1
    cases x.d <;> rfl
  | .rng1 a, ρ => by
    simp only [xI, evI, xd, x1, xg, xi, xE_eq C a] <;> rfl
  | .rng2 a b, ρ => by
    simp only [xI, evI, xd, x1, xg, xE_eq C a, xE_eq C b]
    congr
    funext x ρ1
    congr
    funext y ρ2
    cases x.d <;> first | rfl | (cases y.d <;> rfl)
  | .enum a, ρ => by
    simp only [xI, evI, xd, x1, xE_eq C a]
    congr
    funext x ρ1
    cases x.d <;> rfl
  | .zip a b, ρ => by simp only [xI, evI, xd, x1, xE_eq C a, xE_eq C b]
  | .zip3 a b c, ρ => by simp only [xI, evI, xd, x1, xE_eq C a, xE_eq C b, xE_eq C c]
end
mutual
theorem xS_eq (C : Ctx) : ∀ (s : S) (ρ : Env), xS C s ρ = evS C s ρ
  | .asg true t e, ρ => by simp only [xS, evS, xd, x1, xE_eq C e]
  | .asg false (.nm i) e, ρ => by simp only [xS, evS, xd, x1, xE_eq C e]
  | .asg false (.tp ts) e, ρ => by
    simp only [xS, evS]
    cases evE C e ρ with
    | none => rfl
    | some p => rfl
  | .par fs es, ρ => by simp only [xS, evS, xd, x1, xEs_eq C es]
  | .setO i a e, ρ => by
    simp only [xS, evS, xd, x1, xi, xE_eq C e, xE_eq C a] <;> rfl
  | .setOO i a b e, ρ => by
    simp only [xS, evS, xd, x1, xi, xl, xE_eq C e, xE_eq C a, xE_eq C b] <;> rfl
  | .popO i, ρ => by simp only [xS, evS, xd, x1, xg]
  | .appO i e, ρ => by simp only [xS, evS, xd, x1, xg, xE_eq C e]
  | .extO i e, ρ => by
    simp only [xS, evS, xd, x1, xl, xg, xE_eq C e] <;> rfl
  | .appOO i a e, ρ => by
    simp only [xS, evS, xd, x1, xi, xl, xg, xE_eq C e, xE_eq C a] <;> rfl
  | .extOO i a e, ρ => by
    simp only [xS, evS, xd, x1, xi, xl, xg, xE_eq C e, xE_eq C a] <;> rfl
  | .appOT i a b e, ρ => by
    simp only [xS, evS, xd, x1, xi, xl, xg, xE_eq C e, xE_eq C a, xE_eq C b] <;> rfl
  | .ex e, ρ => by simp only [xS, evS, xd, x1, xE_eq C e]
  | .iff t a b, ρ => by simp only [xS, evS, xd, x1, xs, xE_eq C t, xSs_eq C a, xSs_eq C b] <;> rfl
  | .whl t b, ρ => by simp only [xS, evS, xd, x1, xE_eq C t, xSs_eq C b]
  | .for_ t it b, ρ => by simp only [xS, evS, xd, x1, xI_eq C it, xSs_eq C b]
  | .ret e, ρ => by simp only [xS, evS, xd, x1, xE_eq C e]
  | .retn, ρ => rfl
  | .frz i, ρ => rfl
  | .pas, ρ => rfl
  | .brk, ρ => rfl
  | .cnt, ρ => rfl
theorem xSs_eq (C : Ctx) : ∀ (s : Ss) (ρ : Env), xSs C s ρ = evSs C s ρ
  | .nil, ρ => rfl
  | .cons s ss, ρ => by
    simp only [xSs, evSs, x1, xf, xS_eq C s, xSs_eq C ss] <;> rfl
end
def xEnd (f : Fn) (fl : Fl) : Option (OV × List OV) := match fl with
    | .rt o ρ => b1 (outsOf ρ f.io) fun os => some (o, os)
    | .nx ρ => b1 (outsOf ρ f.io) fun os => some (.fz .none, os)
    | _ => none
def xRun (C : Ctx) (f : Fn) (args : List OV) : Option (OV × List OV) := xg (decide (args.length = f.np)) (x1 (xSs C f.body (startE f args)) (fun fl => xEnd f fl) .mk) .mk
theorem xRun_eq (C : Ctx) (f : Fn) (args : List OV) : runFn C f args = xRun C f args := by
  unfold runFn xRun
  simp only [xg, x1, xSs_eq] <;> rfl
/-- one call -/
theorem ev_call {F : List Fn} {g : Nat} {f : Fn} (h : F[g]? = some f) (W n : Nat) (args : List OV) : evF F W (n + 1) g args = xRun ⟨evF F W n, W⟩ f args := by
  rw [← xRun_eq]
  show b1 F[g]? _ = _
  rw [h]
  rfl
/-! ### what simp goes by -/
section
variable {α β γ : Type}
theorem xd_some (a : α) (b : β) (k : α → β → Option γ) (t : Tg k) : xd (some (a, b)) k t = k a b := of_eq_true (eq_self _)
theorem x1_some (a : α) (k : α → Option γ) (t : Tg k) : x1 (some a) k t = k a := of_eq_true (eq_self _)
theorem xg_true (k : Option γ) (t : Tg k) : xg true k t = k := of_eq_true (eq_self _)
theorem xs_true (x y : Option γ) (t : Tg x) (u : Tg y) : xs true x y t u = x := of_eq_true (eq_self _)
theorem xs_false (x y : Option γ) (t : Tg x) (u : Tg y) : xs false x y t u = y := of_eq_true (eq_self _)
theorem xi_int (i : Int) (k : Int → Option γ) (t : Tg k) : xi (.int i) k t = k i := of_eq_true (eq_self _)
theorem xb_bool (i : Bool) (k : Bool → Option γ) (t : Tg k) : xb (.bool i) k t = k i := of_eq_true (eq_self _)
theorem xn_none (x y : Option γ) (t : Tg x) (u : Tg y) : xn .none x y t u = x := of_eq_true (eq_self _)
theorem xn_int (i : Int) (x y : Option γ) (t : Tg x) (u : Tg y) : xn (.int i) x y t u = y := of_eq_true (eq_self _)
theorem xn_bool (i : Bool) (x y : Option γ) (t : Tg x) (u : Tg y) : xn (.bool i) x y t u = y := of_eq_true (eq_self _)
theorem xn_str (i : Str) (x y : Option γ) (t : Tg x) (u : Tg y) : xn (.str i) x y t u = y := of_eq_true (eq_self _)
theorem xn_list (i : List D) (x y : Option γ) (t : Tg x) (u : Tg y) : xn (.list i) x y t u = y := of_eq_true (eq_self _)
theorem xn_tuple (i : List D) (x y : Option γ) (t : Tg x) (u : Tg y) : xn (.tuple i) x y t u = y := of_eq_true (eq_self _)
theorem xf_nx (ρ : Env) (k : Env → Option Fl) (t : Tg k) : xf (.nx ρ) k t = k ρ := of_eq_true (eq_self _)
theorem xf_rt (o : OV) (ρ : Env) (k : Env → Option Fl) (t : Tg k) : xf (.rt o ρ) k t = some (.rt o ρ) := of_eq_true (eq_self _)
theorem xf_bk (ρ : Env) (k : Env → Option Fl) (t : Tg k) : xf (.bk ρ) k t = some (.bk ρ) := of_eq_true (eq_self _)
theorem xf_ct (ρ : Env) (k : Env → Option Fl) (t : Tg k) : xf (.ct ρ) k t = some (.ct ρ) := of_eq_true (eq_self _)
theorem xz_fz (d : D) (k : D → Option γ) (t : Tg k) : xz (.fz d) k t = k d := of_eq_true (eq_self _)
theorem xl_ol (d : List OV) (k : List OV → Option γ) (t : Tg k) : xl (.ol d) k t = k d := of_eq_true (eq_self _)
theorem xnd_none (k : D → Option γ) (t : Tg k) : xnd .none k t = k .none := of_eq_true (eq_self _)
theorem xnd_bool (b : Bool) (k : D → Option γ) (t : Tg k) : xnd (.bool b) k t = k (.bool b) := of_eq_true (eq_self _)
theorem xnd_int (b : Int) (k : D → Option γ) (t : Tg k) : xnd (.int b) k t = k (.int b) := of_eq_true (eq_self _)
theorem xnd_str (b : Str) (k : D → Option γ) (t : Tg k) : xnd (.str b) k t = k (.str b) := of_eq_true (eq_self _)
theorem xnd_list (b : List D) (k : D → Option γ) (t : Tg k) : xnd (.list b) k t = k (.list b) := of_eq_true (eq_self _)
theorem xnd_tuple (b : List D) (k : D → Option γ) (t : Tg k) : xnd (.tuple b) k t = k (.tuple b) := of_eq_true (eq_self _)
end
end PF

/-! PF: the evaluator's equations for simp (not as definitional ones: what waits behind stays folded). -/
namespace PF
open PySem
theorem e_xE_0 (C : Ctx) (d : _) (ρ : Env) : xE C (.c d) ρ = some (.fz d, ρ) := of_eq_true (eq_self _)
theorem e_xE_1 (C : Ctx) (i : _) (ρ : Env) : xE C (.v i) ρ = x1 (getF ρ i) (fun d => some (.fz d, ρ)) .mk := of_eq_true (eq_self _)
theorem e_xE_2 (C : Ctx) (op : _) (a : _) (b : _) (ρ : Env) : xE C (.bin op a b) ρ = xd (xE C a ρ) (fun x ρ1 => xd (xE C b ρ1) (fun y ρ2 => x1 (binD op x.d y.d) (fun r => some (r, ρ2)) .mk) .mk) .mk := of_eq_true (eq_self _)
theorem e_xE_3 (C : Ctx) (a : _) (ρ : Env) : xE C (.neg a) ρ = xd (xE C a ρ) (fun x ρ1 => xi x.d (fun i => some (.fz (.int (-i)), ρ1)) .mk) .mk := of_eq_true (eq_self _)
theorem e_xE_4 (C : Ctx) (a : _) (ρ : Env) : xE C (.nt a) ρ = xd (xE C a ρ) (fun x ρ1 => x1 (truD x.d) (fun t => some (.fz (.bool (!t)), ρ1)) .mk) .mk := of_eq_true (eq_self _)
theorem e_xE_5 (C : Ctx) (op : _) (a : _) (b : _) (ρ : Env) : xE C (.cmp op a b) ρ = xd (xE C a ρ) (fun x ρ1 => xd (xE C b ρ1) (fun y ρ2 => x1 (cmpD op x.d y.d) (fun r => some (.fz (.bool r), ρ2)) .mk) .mk) .mk := of_eq_true (eq_self _)
theorem e_xE_6 (C : Ctx) (n : _) (a : _) (ρ : Env) : xE C (.isn n a) ρ = xd (xE C a ρ) (fun x ρ1 => xn x.d (some (.fz (.bool (!n)), ρ1)) (some (.fz (.bool n), ρ1)) .mk .mk) .mk := of_eq_true (eq_self _)
theorem e_xE_7 (C : Ctx) (o1 : _) (o2 : _) (a : _) (b : _) (c : _) (ρ : Env) : xE C (.chn o1 o2 a b c) ρ = xd (xE C a ρ) (fun x ρ1 => xd (xE C b ρ1) (fun y ρ2 => x1 (cmpD o1 x.d y.d) (fun r => xs r (xd (xE C c ρ2) (fun z ρ3 => x1 (cmpD o2 y.d z.d) (fun r' => some (.fz (.bool r'), ρ3)) .mk) .mk) (some (.fz (.bool false), ρ2)) .mk .mk) .mk) .mk) .mk := of_eq_true (eq_self _)
theorem e_xE_8 (C : Ctx) (a : _) (b : _) (ρ : Env) : xE C (.an a b) ρ = xd (xE C a ρ) (fun x ρ1 => x1 (truD x.d) (fun t => xs t (xE C b ρ1) (some (x, ρ1)) .mk .mk) .mk) .mk := of_eq_true (eq_self _)
theorem e_xE_9 (C : Ctx) (a : _) (b : _) (ρ : Env) : xE C (.orr a b) ρ = xd (xE C a ρ) (fun x ρ1 => x1 (truD x.d) (fun t => xs t (some (x, ρ1)) (xE C b ρ1) .mk .mk) .mk) .mk := of_eq_true (eq_self _)
theorem e_xE_10 (C : Ctx) (t : _) (a : _) (b : _) (ρ : Env) : xE C (.ite t a b) ρ = xd (xE C t ρ) (fun x ρ1 => x1 (truD x.d) (fun t => xs t (xE C a ρ1) (xE C b ρ1) .mk .mk) .mk) .mk := of_eq_true (eq_self _)
theorem e_xE_11 (C : Ctx) (es : _) (ρ : Env) : xE C (.tup es) ρ = xd (xEs C es ρ) (fun xs ρ1 => xg (decide (xs.length ≤ SZ)) (some (mkTup xs, ρ1)) .mk) .mk := of_eq_true (eq_self _)
theorem e_xE_12 (C : Ctx) (es : _) (ρ : Env) : xE C (.lst es) ρ = xd (xEs C es ρ) (fun xs ρ1 => xg (decide (xs.length ≤ SZ)) (some (.ol xs, ρ1)) .mk) .mk := of_eq_true (eq_self _)
theorem e_xE_13 (C : Ctx) (a : _) (b : _) (ρ : Env) : xE C (.idx a b) ρ = xd (xE C a ρ) (fun x ρ1 => xd (xE C b ρ1) (fun y ρ2 => x1 (idxD x.d y.d) (fun r => some (.fz r, ρ2)) .mk) .mk) .mk := of_eq_true (eq_self _)
theorem e_xE_14 (C : Ctx) (a : _) (lo : _) (hi : _) (ρ : Env) : xE C (.slc a lo hi) ρ = xd (xE C a ρ) (fun x ρ1 => xd (xO C lo ρ1) (fun l ρ2 => xd (xO C hi ρ2) (fun h ρ3 => x1 (optI l) (fun l => x1 (optI h) (fun h => x1 (slcD x.d l h) (fun r => some (r, ρ3)) .mk) .mk) .mk) .mk) .mk) .mk := of_eq_true (eq_self _)
theorem e_xE_15 (C : Ctx) (g : _) (as : _) (ρ : Env) : xE C (.call g as) ρ = xd (xA C as ρ) (fun xs ρ1 => x1 (resolve ρ1 xs) (fun os => xd (C.call g os) (fun r outs => x1 (putBack (slotsOf xs) outs (wipeE ρ1 (slotsOf xs))) (fun ρ2 => some (r, ρ2)) .mk) .mk) .mk) .mk := of_eq_true (eq_self _)
theorem e_xE_16 (C : Ctx) (g : _) (es : _) (perm : _) (ρ : Env) : xE C (.callk g es perm) ρ = xd (xEs C es ρ) (fun xs ρ1 => x1 (permD perm xs) (fun os => xd (C.call g (fzs (OV.ds os))) (fun r outs => noOuts r ρ1 outs) .mk) .mk) .mk := of_eq_true (eq_self _)
theorem e_xE_17 (C : Ctx) (b : _) (es : _) (ρ : Env) : xE C (.blt b es) ρ = xd (xEs C es ρ) (fun xs ρ1 => x1 (bltD b (OV.ds xs)) (fun r => some (r, ρ1)) .mk) .mk := of_eq_true (eq_self _)
theorem e_xE_18 (C : Ctx) (ts : _) (a : _) (ρ : Env) : xE C (.isi ts a) ρ = xd (xE C a ρ) (fun x ρ1 => xnd x.d (fun d => some (.fz (.bool (ts.any fun t => isTy t d)), ρ1)) .mk) .mk := of_eq_true (eq_self _)
/-- a comprehension's turn, its turns, the whole -/
def lturn (C : Ctx) (own : List Nat) (tg : T) (cnd elt : E) (d : D) (ρ' : Env) : Option (List OV × Env) := x1 (bindT tg d (wipC ρ' own)) (fun ρa => xd (xE C cnd ρa) (fun b ρb => x1 (truD b.d) (fun t => xs t (xd (xE C elt ρb) (fun x ρc => some ([x], ρc)) .mk) (some ([], ρb)) .mk .mk) .mk) .mk) .mk
def lcX (C : Ctx) (own : List Nat) (tg : T) (cnd elt : E) (ds : List D) (ρ : Env) : Option (List OV × Env) := evL (fun d ρ' => lturn C own tg cnd elt d ρ') ds ρ
def lcY (C : Ctx) (own : List Nat) (tg : T) (cnd elt : E) (ds : List D) (ρ : Env) : Option (OV × Env) := xd (lcX C own tg cnd elt ds ρ) (fun os ρ2 => xg (decide (os.length < SZ)) (some (.ol os, backE ρ ρ2 own)) .mk) .mk
def l2turn (C : Ctx) (own own1 : List Nat) (tg : T) (tg1 : T) (it1 : It) (cnd elt : E) (d : D) (ρ' : Env) : Option (List OV × Env) := x1 (bindT tg d (wipC ρ' own)) (fun ρa => xd (xI C it1 ρa) (fun ds1 ρb => lcX C own1 tg1 cnd elt ds1 ρb) .mk) .mk
def lc2X (C : Ctx) (own own1 : List Nat) (tg : T) (tg1 : T) (it1 : It) (cnd elt : E) (ds : List D) (ρ : Env) : Option (List OV × Env) := evL (fun d ρ' => l2turn C own own1 tg tg1 it1 cnd elt d ρ') ds ρ
def lc2Y (C : Ctx) (own own1 : List Nat) (tg : T) (tg1 : T) (it1 : It) (cnd elt : E) (ds : List D) (ρ : Env) : Option (OV × Env) := xd (lc2X C own own1 tg tg1 it1 cnd elt ds ρ) (fun os ρ2 => xg (decide (os.length < SZ)) (some (.ol os, backE ρ ρ2 own)) .mk) .mk
theorem e_xE_19 (C : Ctx) (own : _) (tg : _) (it : _) (cnd : _) (elt : _) (ρ : Env) : xE C (.lc own tg it cnd elt) ρ = xd (xI C it ρ) (fun ds ρ1 => lcY C own tg cnd elt ds ρ1) .mk := of_eq_true (eq_self _)
theorem e_xE_20 (C : Ctx) (own : _) (own1 : _) (tg : _) (it : _) (tg1 : _) (it1 : _) (cnd : _) (elt : _) (ρ : Env) : xE C (.lc2 own own1 tg it tg1 it1 cnd elt) ρ = xd (xI C it ρ) (fun ds ρ1 => lc2Y C own own1 tg tg1 it1 cnd elt ds ρ1) .mk := of_eq_true (eq_self _)
theorem e_xE_21 (C : Ctx) (i : _) (b : _) (ρ : Env) : xE C (.idxO i b) ρ = x1 (getL ρ i) (fun _ => xd (xE C b ρ) (fun y ρ1 => x1 (getL ρ1 i) (fun xs => xi y.d (fun k => x1 (atD xs k) (fun o => xz o (fun d => some (.fz d, ρ1)) .mk) .mk) .mk) .mk) .mk) .mk := of_eq_true (eq_self _)
theorem e_xE_22 (C : Ctx) (i : _) (b : _) (c : _) (ρ : Env) : xE C (.idxOO i b c) ρ = x1 (getL ρ i) (fun _ => xd (xE C b ρ) (fun y ρ1 => x1 (getL ρ1 i) (fun xs => xi y.d (fun k => x1 (atD xs k) (fun o => xl o (fun ys => xd (xE C c (ρ1.set i none)) (fun z ρ2 => xi z.d (fun l => x1 (atD ys l) (fun p => xz p (fun d => some (.fz d, ρ2.set i (some (.ol xs)))) .mk) .mk) .mk) .mk) .mk) .mk) .mk) .mk) .mk) .mk := of_eq_true (eq_self _)
theorem e_xE_23 (C : Ctx) (i : _) (ρ : Env) : xE C (.lenO i) ρ = x1 (getL ρ i) (fun xs => some (.fz (.int xs.length), ρ)) .mk := of_eq_true (eq_self _)
theorem e_xE_24 (C : Ctx) (i : _) (ρ : Env) : xE C (.mv i) ρ = x1 (get ρ i) (fun o => some (o, ρ.set i none)) .mk := of_eq_true (eq_self _)
theorem e_xE_25 (C : Ctx) (e : _) (ρ : Env) : xE C (.bor e) ρ = xd (xE C e (frE ρ)) (fun x _ => xg (immO x) (some (x, ρ)) .mk) .mk := of_eq_true (eq_self _)
theorem e_xE_26 (C : Ctx) (c : _) (ρ : Env) : xE C (.gc c) ρ = some (.fz c.d, ρ) := of_eq_true (eq_self _)
theorem e_xE_27 (C : Ctx) (e : _) (ρ : Env) : xE C (.fm e) ρ = xd (xE C e ρ) (fun x ρ1 => x1 (txtD x.d) (fun s => some (.fz (.str s), ρ1)) .mk) .mk := of_eq_true (eq_self _)
theorem e_xE_28 (C : Ctx) (es : _) (ρ : Env) : xE C (.js es) ρ = xd (xEs C es ρ) (fun xs ρ1 => x1 (catD Str.empty (OV.ds xs)) (fun s => some (.fz (.str s), ρ1)) .mk) .mk := of_eq_true (eq_self _)
theorem e_xE_29 (C : Ctx) (a : _) (b : _) (ρ : Env) : xE C (.lrng a b) ρ = xd (xE C a ρ) (fun x ρ1 => xd (xE C b ρ1) (fun y ρ2 => xi x.d (fun i => xi y.d (fun j => xg (rgOk i j) (some (.ol (fzs (rangeD i (j - i).toNat)), ρ2)) .mk) .mk) .mk) .mk) .mk := of_eq_true (eq_self _)
theorem e_xE_30 (C : Ctx) (m : _) (b : _) (a : _) (ρ : Env) : xE C (.isb m b a) ρ = xd (xE C a ρ) (fun x ρ1 => xb x.d (fun c => some (.fz (.bool (isbV m b c)), ρ1)) .mk) .mk := of_eq_true (eq_self _)
theorem e_xE_31 (C : Ctx) (g : _) (a : _) (ρ : Env) : xE C (.callt g a) ρ = xd (xE C a ρ) (fun x ρ1 => xd (C.call g [x]) (fun r _ => some (r, ρ1)) .mk) .mk := of_eq_true (eq_self _)
theorem e_xE_33 (C : Ctx) (a b : _) (ρ : Env) : xE C (.cat a b) ρ = xd (xE C a ρ) (fun x ρ1 => xd (xE C b ρ1) (fun y ρ2 => xl x (fun xs => xl y (fun ys => xg (decide (xs.length + ys.length ≤ SZ)) (some (.ol (xs ++ ys), ρ2)) .mk) .mk) .mk) .mk) .mk := of_eq_true (eq_self _)
theorem e_xE_34 (C : Ctx) (a b : _) (ρ : Env) : xE C (.lz a b) ρ = xd (xE C a ρ) (fun x ρ1 => xd (xE C b ρ1) (fun y ρ2 => x1 (lzD x.d y.d) (fun r => some (r, ρ2)) .mk) .mk) .mk := of_eq_true (eq_self _)
theorem e_xE_35 (C : Ctx) (x : _) (ρ : Env) : xE C (.fnv x) ρ = some (.fz (fnD x), ρ) := of_eq_true (eq_self _)
theorem e_xE_36 (C : Ctx) (i : _) (cs : _) (e : _) (es : _) (ρ : Env) : xE C (.callv i cs e es) ρ = x1 (getF ρ i) (fun d => x1 (fnN d) (fun x => x1 (cs.lookup x) (fun g => xd (xE C e ρ) (fun y ρ1 => xd (xEs C es ρ1) (fun ys ρ2 => xd (C.call g (.fz y.d :: fzs (OV.ds ys))) (fun r outs => noOuts r ρ2 outs) .mk) .mk) .mk) .mk) .mk) .mk := of_eq_true (eq_self _)
theorem e_xE_37 (C : Ctx) (i : _) (e : _) (ρ : Env) : xE C (.popI i e) ρ = x1 (getL ρ i) (fun _ => xd (xE C e ρ) (fun y ρ1 => x1 (getL ρ1 i) (fun xs => popK i xs y.d ρ1) .mk) .mk) .mk := of_eq_true (eq_self _)
theorem q_popK (i : _) (xs : _) (k : _) (ρ : Env) : popK i xs (.int k) ρ = xg (decide (xs.length ≤ SZ)) (x1 (ixN xs.length k) (fun j => x1 xs[j]? (fun o => some (o, ρ.set i (some (.ol (xs.eraseIdx j))))) .mk) .mk) .mk := of_eq_true (eq_self _)
theorem q_fnN (x : Str) : fnN (fnD x) = some x := of_eq_true (eq_self _)
theorem e_xE_32 (C : Ctx) (p : _) (a : _) (ρ : Env) : xE C (.p1 p a) ρ = xd (xE C a ρ) (fun x ρ1 => x1 (p1D p x.d) (fun r => some (r, ρ1)) .mk) .mk := of_eq_true (eq_self _)
theorem e_xO_0 (C : Ctx) (ρ : Env) : xO C (.no) ρ = some (none, ρ) := of_eq_true (eq_self _)
theorem e_xO_1 (C : Ctx) (e : _) (ρ : Env) : xO C (.ye e) ρ = xd (xE C e ρ) (fun x ρ1 => some (some x.d, ρ1)) .mk := of_eq_true (eq_self _)
theorem e_xEs_0 (C : Ctx) (ρ : Env) : xEs C (.nil) ρ = some ([], ρ) := of_eq_true (eq_self _)
theorem e_xEs_1 (C : Ctx) (e : _) (es : _) (ρ : Env) : xEs C (.cons e es) ρ = xd (xE C e ρ) (fun x ρ1 => xd (xEs C es ρ1) (fun xs ρ2 => some (x :: xs, ρ2)) .mk) .mk := of_eq_true (eq_self _)
theorem e_xA_0 (C : Ctx) (ρ : Env) : xA C (.nil) ρ = some ([], ρ) := of_eq_true (eq_self _)
theorem e_xA_1 (C : Ctx) (e : _) (as : _) (ρ : Env) : xA C (.ev e as) ρ = xd (xE C e ρ) (fun x ρ1 => xd (xA C as ρ1) (fun xs ρ2 => some (.inl (.fz x.d) :: xs, ρ2)) .mk) .mk := of_eq_true (eq_self _)
theorem e_xA_2 (C : Ctx) (i : _) (as : _) (ρ : Env) : xA C (.io i as) ρ = x1 (getL ρ i) (fun _ => xd (xA C as ρ) (fun xs ρ2 => xg (decide (i ∉ slotsOf xs)) (some (.inr i :: xs, ρ2)) .mk) .mk) .mk := of_eq_true (eq_self _)
theorem e_xI_0 (C : Ctx) (e : _) (ρ : Env) : xI C (.seq e) ρ = xd (xE C e ρ) (fun x ρ1 => x1 (itemsD x.d) (fun ds => some (ds, ρ1)) .mk) .mk := of_eq_true (eq_self _)
theorem e_xI_1 (C : Ctx) (a : _) (ρ : Env) : xI C (.rng1 a) ρ = xd (xE C a ρ) (fun x ρ1 => xi x.d (fun i => xg (rngOk i) (some (rangeD 0 i.toNat, ρ1)) .mk) .mk) .mk := of_eq_true (eq_self _)
theorem e_xI_2 (C : Ctx) (a : _) (b : _) (ρ : Env) : xI C (.rng2 a b) ρ = xd (xE C a ρ) (fun x ρ1 => xd (xE C b ρ1) (fun y ρ2 => xi x.d (fun i => xi y.d (fun j => xg (rngOk i && rngOk j) (some (rangeD i (j - i).toNat, ρ2)) .mk) .mk) .mk) .mk) .mk := of_eq_true (eq_self _)
theorem e_xI_3 (C : Ctx) (a : _) (ρ : Env) : xI C (.enum a) ρ = xd (xE C a ρ) (fun x ρ1 => x1 (listD x.d) (fun ds => some (enumD 0 ds, ρ1)) .mk) .mk := of_eq_true (eq_self _)
theorem e_xI_5 (C : Ctx) (a : _) (b : _) (c : _) (ρ : Env) : xI C (.zip3 a b c) ρ = xd (xE C a ρ) (fun x ρ1 => xd (xE C b ρ1) (fun y ρ2 => xd (xE C c ρ2) (fun z ρ3 => x1 (zipD3 x.d y.d z.d) (fun ds => some (ds, ρ3)) .mk) .mk) .mk) .mk := of_eq_true (eq_self _)
theorem e_xI_4 (C : Ctx) (a : _) (b : _) (ρ : Env) : xI C (.zip a b) ρ = xd (xE C a ρ) (fun x ρ1 => xd (xE C b ρ1) (fun y ρ2 => x1 (zipD2 x.d y.d) (fun ds => some (ds, ρ2)) .mk) .mk) .mk := of_eq_true (eq_self _)
theorem e_xS_0 (C : Ctx) (t : _) (e : _) (ρ : Env) : xS C (.asg true t e) ρ = xd (xE C e ρ) (fun x ρ1 => x1 (bindT t x.d ρ1) (fun ρ2 => some (.nx ρ2)) .mk) .mk := of_eq_true (eq_self _)
theorem e_xS_1 (C : Ctx) (i : _) (e : _) (ρ : Env) : xS C (.asg false (.nm i) e) ρ = xd (xE C e ρ) (fun x ρ1 => some (.nx (ρ1.set i (some x)))) .mk := of_eq_true (eq_self _)
theorem e_xS_2 (C : Ctx) (u1 : _) (u2 : _) (ρ : Env) : xS C (.asg false (.tp u1) u2) ρ = none := of_eq_true (eq_self _)
theorem e_xS_3 (C : Ctx) (fs : _) (es : _) (ρ : Env) : xS C (.par fs es) ρ = xd (xEs C es ρ) (fun xs ρ1 => x1 (setPar fs xs ρ1) (fun ρ2 => some (.nx ρ2)) .mk) .mk := of_eq_true (eq_self _)
theorem e_xS_4 (C : Ctx) (i : _) (a : _) (e : _) (ρ : Env) : xS C (.setO i a e) ρ = xd (xE C e ρ) (fun x ρ1 => x1 (getL ρ1 i) (fun _ => xd (xE C a ρ1) (fun y ρ2 => x1 (getL ρ2 i) (fun xs => xi y.d (fun k => x1 (ixN xs.length k) (fun j => some (.nx (ρ2.set i (some (.ol (xs.set j x)))))) .mk) .mk) .mk) .mk) .mk) .mk := of_eq_true (eq_self _)
theorem e_xS_5 (C : Ctx) (i : _) (a : _) (b : _) (e : _) (ρ : Env) : xS C (.setOO i a b e) ρ = xd (xE C e ρ) (fun x ρ1 => x1 (getL ρ1 i) (fun _ => xd (xE C a ρ1) (fun y ρ2 => x1 (getL ρ2 i) (fun xs => xi y.d (fun k => x1 (ixN xs.length k) (fun j => x1 xs[j]? (fun o => xl o (fun ys => xd (xE C b (ρ2.set i none)) (fun z ρ3 => xi z.d (fun l => x1 (ixN ys.length l) (fun m => some (.nx (ρ3.set i (some (.ol (xs.set j (.ol (ys.set m x)))))))) .mk) .mk) .mk) .mk) .mk) .mk) .mk) .mk) .mk) .mk) .mk := of_eq_true (eq_self _)
theorem e_xS_6 (C : Ctx) (i : _) (e : _) (ρ : Env) : xS C (.appO i e) ρ = x1 (getL ρ i) (fun _ => xd (xE C e ρ) (fun x ρ1 => x1 (getL ρ1 i) (fun xs => xg (decide (xs.length < SZ)) (some (.nx (ρ1.set i (some (.ol (xs ++ [x])))))) .mk) .mk) .mk) .mk := of_eq_true (eq_self _)
theorem e_xS_20 (C : Ctx) (i : _) (ρ : Env) : xS C (.popO i) ρ = x1 (getL ρ i) (fun xs => xg (decide (0 < xs.length)) (some (.nx (ρ.set i (some (.ol xs.dropLast))))) .mk) .mk := of_eq_true (eq_self _)
theorem e_xS_7 (C : Ctx) (e : _) (ρ : Env) : xS C (.ex e) ρ = xd (xE C e ρ) (fun _ ρ1 => some (.nx ρ1)) .mk := of_eq_true (eq_self _)
theorem e_xS_8 (C : Ctx) (t : _) (a : _) (b : _) (ρ : Env) : xS C (.iff t a b) ρ = xd (xE C t ρ) (fun x ρ1 => x1 (truD x.d) (fun t => xs t (xSs C a ρ1) (xSs C b ρ1) .mk .mk) .mk) .mk := of_eq_true (eq_self _)
/-- loops -/
def turn (C : Ctx) (t : T) (b : Ss) (d : D) (ρ : Env) : Option Fl := x1 (bindT t d ρ) (fun ρa => xSs C b ρa) .mk
def forX (C : Ctx) (t : T) (b : Ss) (ds : List D) (ρ : Env) : Option Fl := forL (fun d ρ' => turn C t b d ρ') ds ρ
def wtest (C : Ctx) (t : E) (ρ : Env) : Option (Bool × Env) := xd (xE C t ρ) (fun x ρ1 => x1 (truD x.d) (fun t => some (t, ρ1)) .mk) .mk
def whX (C : Ctx) (t : E) (b : Ss) (n : Nat) (ρ : Env) : Option Fl := whlL (fun ρ => wtest C t ρ) (fun ρ => xSs C b ρ) n ρ
theorem e_xS_9 (C : Ctx) (t : _) (b : _) (ρ : Env) : xS C (.whl t b) ρ = whX C t b C.W ρ := of_eq_true (eq_self _)
theorem e_xS_10 (C : Ctx) (t : _) (it : _) (b : _) (ρ : Env) : xS C (.for_ t it b) ρ = xd (xI C it ρ) (fun ds ρ1 => forX C t b ds ρ1) .mk := of_eq_true (eq_self _)
theorem e_xS_11 (C : Ctx) (e : _) (ρ : Env) : xS C (.ret e) ρ = xd (xE C e ρ) (fun x ρ1 => some (.rt x ρ1)) .mk := of_eq_true (eq_self _)
theorem e_xS_12 (C : Ctx) (ρ : Env) : xS C (.retn) ρ = some (.rt (.fz .none) ρ) := of_eq_true (eq_self _)
theorem e_xS_13 (C : Ctx) (i : _) (ρ : Env) : xS C (.frz i) ρ = x1 (get ρ i) (fun o => some (.nx (ρ.set i (some (.fz o.d))))) .mk := of_eq_true (eq_self _)
theorem e_xS_14 (C : Ctx) (ρ : Env) : xS C (.pas) ρ = some (.nx ρ) := of_eq_true (eq_self _)
theorem e_xS_15 (C : Ctx) (ρ : Env) : xS C (.brk) ρ = some (.bk ρ) := of_eq_true (eq_self _)
theorem e_xS_16 (C : Ctx) (ρ : Env) : xS C (.cnt) ρ = some (.ct ρ) := of_eq_true (eq_self _)
theorem e_xS_17 (C : Ctx) (i : _) (e : _) (ρ : Env) : xS C (.extO i e) ρ = x1 (getL ρ i) (fun _ => xd (xE C e ρ) (fun x ρ1 => x1 (getL ρ1 i) (fun xs => xl x (fun ys => xg (decide (xs.length + ys.length ≤ SZ)) (some (.nx (ρ1.set i (some (.ol (xs ++ ys)))))) .mk) .mk) .mk) .mk) .mk := of_eq_true (eq_self _)
theorem e_xS_18 (C : Ctx) (i : _) (a : _) (e : _) (ρ : Env) : xS C (.appOO i a e) ρ = x1 (getL ρ i) (fun _ => xd (xE C a ρ) (fun y ρ1 => x1 (getL ρ1 i) (fun xs => xi y.d (fun k => x1 (ixN xs.length k) (fun j => x1 xs[j]? (fun o => xl o (fun ys => xd (xE C e (ρ1.set i none)) (fun x ρ2 => xg (decide (ys.length < SZ)) (some (.nx (ρ2.set i (some (.ol (xs.set j (.ol (ys ++ [x])))))))) .mk) .mk) .mk) .mk) .mk) .mk) .mk) .mk) .mk := of_eq_true (eq_self _)
theorem e_xS_19 (C : Ctx) (i : _) (a : _) (e : _) (ρ : Env) : xS C (.extOO i a e) ρ = x1 (getL ρ i) (fun _ => xd (xE C a ρ) (fun y ρ1 => x1 (getL ρ1 i) (fun xs => xi y.d (fun k => x1 (ixN xs.length k) (fun j => x1 xs[j]? (fun o => xl o (fun ys => xd (xE C e (ρ1.set i none)) (fun x ρ2 => xl x (fun zs => xg (decide (ys.length + zs.length ≤ SZ)) (some (.nx (ρ2.set i (some (.ol (xs.set j (.ol (ys ++ zs)))))))) .mk) .mk) .mk) .mk) .mk) .mk) .mk) .mk) .mk) .mk := of_eq_true (eq_self _)
theorem e_xS_21 (C : Ctx) (i : _) (a : _) (b : _) (e : _) (ρ : Env) : xS C (.appOT i a b e) ρ = x1 (getL ρ i) (fun xs => xd (xE C a (ρ.set i none)) (fun y ρ1 => xi y.d (fun k => x1 (atD xs k) (fun o => x1 (otD o) (fun ys => xd (xE C b ρ1) (fun z ρ2 => xi z.d (fun l => x1 (atD ys l) (fun p => xl p (fun zs => xd (xE C e ρ2) (fun _ ρ3 => xg (decide (zs.length < SZ)) (some (.nx ρ3)) .mk) .mk) .mk) .mk) .mk) .mk) .mk) .mk) .mk) .mk) .mk := of_eq_true (eq_self _)
theorem q_otD (xs : List OV) : otD (.ot xs) = some xs := of_eq_true (eq_self _)
theorem e_xSs_0 (C : Ctx) (ρ : Env) : xSs C (.nil) ρ = some (.nx ρ) := of_eq_true (eq_self _)
theorem e_xSs_1 (C : Ctx) (s : _) (ss : _) (ρ : Env) : xSs C (.cons s ss) ρ = x1 (xS C s ρ) (fun f => xf f (fun ρ1 => xSs C ss ρ1) .mk) .mk := of_eq_true (eq_self _)
def xr (f : Fl) (k : Env → Option Fl) (_ : Tg k) : Option Fl := match f with
  | .nx ρ => k ρ
  | .ct ρ => k ρ
  | .bk ρ => some (.nx ρ)
  | .rt o ρ => some (.rt o ρ)
theorem xr_nx (ρ : Env) (k : Env → Option Fl) (t : Tg k) : xr (.nx ρ) k t = k ρ := of_eq_true (eq_self _)
theorem xr_ct (ρ : Env) (k : Env → Option Fl) (t : Tg k) : xr (.ct ρ) k t = k ρ := of_eq_true (eq_self _)
theorem xr_bk (ρ : Env) (k : Env → Option Fl) (t : Tg k) : xr (.bk ρ) k t = some (.nx ρ) := of_eq_true (eq_self _)
theorem xr_rt (o : OV) (ρ : Env) (k : Env → Option Fl) (t : Tg k) : xr (.rt o ρ) k t = some (.rt o ρ) := of_eq_true (eq_self _)
section
variable (C : Ctx) (own own1 : List Nat) (tg tg1 : T) (it1 : It) (cnd elt : E) (d : D) (ds : List D) (ρ : Env) (b : Ss)
theorem q_lturn : lturn C own tg cnd elt d ρ = x1 (bindT tg d (wipC ρ own)) (fun ρa => xd (xE C cnd ρa) (fun b ρb => x1 (truD b.d) (fun t => xs t (xd (xE C elt ρb) (fun x ρc => some ([x], ρc)) .mk) (some ([], ρb)) .mk .mk) .mk) .mk) .mk := of_eq_true (eq_self _)
theorem q_l2turn : l2turn C own own1 tg tg1 it1 cnd elt d ρ = x1 (bindT tg d (wipC ρ own)) (fun ρa => xd (xI C it1 ρa) (fun ds1 ρb => lcX C own1 tg1 cnd elt ds1 ρb) .mk) .mk := of_eq_true (eq_self _)
theorem q_turn : turn C tg b d ρ = x1 (bindT tg d ρ) (fun ρa => xSs C b ρa) .mk := of_eq_true (eq_self _)
theorem q_wtest : wtest C cnd ρ = xd (xE C cnd ρ) (fun x ρ1 => x1 (truD x.d) (fun t => some (t, ρ1)) .mk) .mk := of_eq_true (eq_self _)
theorem q_lcX_n : lcX C own tg cnd elt [] ρ = some ([], ρ) := of_eq_true (eq_self _)
theorem q_lcX_c : lcX C own tg cnd elt (d :: ds) ρ = xd (lturn C own tg cnd elt d ρ) (fun o ρ1 => xd (lcX C own tg cnd elt ds ρ1) (fun os ρ2 => some (o ++ os, ρ2)) .mk) .mk := of_eq_true (eq_self _)
theorem q_lcY_n : lcY C own tg cnd elt [] ρ = some (.ol [], backE ρ ρ own) := of_eq_true (eq_self _)
theorem q_lcY_c : lcY C own tg cnd elt (d :: ds) ρ = xd (lcX C own tg cnd elt (d :: ds) ρ) (fun os ρ2 => xg (decide (os.length < SZ)) (some (.ol os, backE ρ ρ2 own)) .mk) .mk := of_eq_true (eq_self _)
theorem q_lc2X_n : lc2X C own own1 tg tg1 it1 cnd elt [] ρ = some ([], ρ) := of_eq_true (eq_self _)
theorem q_lc2X_c : lc2X C own own1 tg tg1 it1 cnd elt (d :: ds) ρ = xd (l2turn C own own1 tg tg1 it1 cnd elt d ρ) (fun o ρ1 => xd (lc2X C own own1 tg tg1 it1 cnd elt ds ρ1) (fun os ρ2 => some (o ++ os, ρ2)) .mk) .mk := of_eq_true (eq_self _)
theorem q_lc2Y_n : lc2Y C own own1 tg tg1 it1 cnd elt [] ρ = some (.ol [], backE ρ ρ own) := of_eq_true (eq_self _)
theorem q_lc2Y_c : lc2Y C own own1 tg tg1 it1 cnd elt (d :: ds) ρ = xd (lc2X C own own1 tg tg1 it1 cnd elt (d :: ds) ρ) (fun os ρ2 => xg (decide (os.length < SZ)) (some (.ol os, backE ρ ρ2 own)) .mk) .mk := of_eq_true (eq_self _)
theorem q_forX_n : forX C tg b [] ρ = some (.nx ρ) := of_eq_true (eq_self _)
theorem q_forX_c : forX C tg b (d :: ds) ρ = x1 (turn C tg b d ρ) (fun f => xr f (fun ρ1 => forX C tg b ds ρ1) .mk) .mk := by
  show b1 (turn C tg b d ρ) _ = b1 (turn C tg b d ρ) _
  cases turn C tg b d ρ with
  | none => rfl
  | some f => cases f <;> rfl
theorem q_whX (n : Nat) : whX C cnd b (n + 1) ρ = xd (wtest C cnd ρ) (fun t ρ1 => xs t (x1 (xSs C b ρ1) (fun f => xr f (fun ρ2 => whX C cnd b n ρ2) .mk) .mk) (some (.nx ρ1)) .mk .mk) .mk := by
  show bd (wtest C cnd ρ) _ = bd (wtest C cnd ρ) _
  cases wtest C cnd ρ with
  | none => rfl
  | some p =>
    obtain ⟨t, ρ1⟩ := p
    cases t with
    | false => rfl
    | true =>
      show b1 (xSs C b ρ1) _ = b1 (xSs C b ρ1) _
      cases xSs C b ρ1 with
      | none => rfl
      | some f => cases f <;> rfl
end
/-! ### what turns amount to -/
theorem wxC_len (ρ : Env) : ∀ is : List Nat, (wipC ρ is).length = ρ.length
  | [] => rfl
  | i :: is => by
    show ((wipC ρ is).set i none).length = _
    rw [List.length_set, wxC_len ρ is]
theorem wxC_at (ρ : Env) : ∀ (is : List Nat) (j : Nat), j ∉ is → (wipC ρ is)[j]? = ρ[j]?
  | [], _, _ => rfl
  | i :: is, j, h => by
    show ((wipC ρ is).set i none)[j]? = _
    have ne : i ≠ j := fun e => h (by rw [e]; exact List.mem_cons_self)
    rw [List.getElem?_set_ne ne, wxC_at ρ is j fun z => h (List.mem_cons_of_mem _ z)]
theorem bxE_len (ρ : Env) : ∀ (is : List Nat) (ρ' : Env), (backE ρ ρ' is).length = ρ'.length
  | [], _ => rfl
  | i :: is, ρ' => by
    show (backE ρ (ρ'.set i (jn ρ[i]?)) is).length = _
    rw [bxE_len ρ is, List.length_set]
theorem bxE_at (ρ : Env) : ∀ (is : List Nat) (ρ' : Env), ρ'.length = ρ.length → (∀ j, j ∉ is → ρ'[j]? = ρ[j]?) → backE ρ ρ' is = ρ
  | [], ρ', hl, h => List.ext_getElem? fun j => h j List.not_mem_nil
  | i :: is, ρ', hl, h => by
    show backE ρ (ρ'.set i (jn ρ[i]?)) is = ρ
    refine bxE_at ρ is _ (by rw [List.length_set]; exact hl) fun j hj => ?_
    by_cases e : i = j
    · subst e
      by_cases hi : i < ρ.length
      · rw [List.getElem?_set_self (by omega), List.getElem?_eq_getElem hi]
        rfl
      · rw [List.getElem?_eq_none (by rw [List.length_set]; omega), List.getElem?_eq_none (by omega)]
    · rw [List.getElem?_set_ne e]
      exact h j fun z => by
        rcases List.mem_cons.mp z with z | z
        · exact e z.symm
        · exact hj z
theorem bxE_wip {ρ ρ' : Env} {own : List Nat} (h : wipC ρ' own = wipC ρ own) : backE ρ ρ' own = ρ := by
  refine bxE_at ρ own ρ' ?_ fun j hj => ?_
  · have := congrArg List.length h
    rwa [wxC_len, wxC_len] at this
  · rw [← wxC_at ρ' own j hj, h, wxC_at ρ own j hj]
theorem lturn_wip {C : Ctx} {own : List Nat} {tg : T} {cnd elt : E} {d : D} {ρ ρ' : Env} (h : wipC ρ' own = wipC ρ own) : lturn C own tg cnd elt d ρ' = lturn C own tg cnd elt d ρ := by
  unfold lturn
  rw [h]
theorem l2turn_wip {C : Ctx} {own own1 : List Nat} {tg tg1 : T} {it1 : It} {cnd elt : E} {d : D} {ρ ρ' : Env} (h : wipC ρ' own = wipC ρ own) : l2turn C own own1 tg tg1 it1 cnd elt d ρ' = l2turn C own own1 tg tg1 it1 cnd elt d ρ := by
  unfold l2turn
  rw [h]
theorem evL_pure {step : D → Env → Option (List OV × Env)} {own : List Nat} {ρ0 : Env} (f : D → List OV) (hw : ∀ d ρ', wipC ρ' own = wipC ρ0 own → step d ρ' = step d ρ0) : ∀ (ds : List D) (ρ : Env), wipC ρ own = wipC ρ0 own →
    (∀ d ∈ ds, ∃ ρ'', step d ρ0 = some (f d, ρ'') ∧ wipC ρ'' own = wipC ρ0 own) → ∃ ρ', evL step ds ρ = some (ds.flatMap f, ρ') ∧ wipC ρ' own = wipC ρ0 own
  | [], ρ, h, _ => ⟨ρ, rfl, h⟩
  | d :: ds, ρ, h, k => by
    obtain ⟨ρ1, e1, h1⟩ := k d List.mem_cons_self
    obtain ⟨ρ2, e2, h2⟩ := evL_pure f hw ds ρ1 h1 fun d hd => k d (List.mem_cons_of_mem _ hd)
    refine ⟨ρ2, ?_, h2⟩
    show bd (step d ρ) _ = _
    rw [hw d ρ h, e1]
    show bd (evL step ds ρ1) _ = _
    rw [e2]
    rfl
/-- a comprehension whose turns change nothing but its own slots -/
theorem lcX_pure {C : Ctx} {own : List Nat} {tg : T} {cnd elt : E} {ds : List D} {ρ : Env} (f : D → List OV) (h : ∀ d ∈ ds, ∃ ρ'', lturn C own tg cnd elt d ρ = some (f d, ρ'') ∧ wipC ρ'' own = wipC ρ own) :
    ∃ ρ', lcX C own tg cnd elt ds ρ = some (ds.flatMap f, ρ') ∧ wipC ρ' own = wipC ρ own := evL_pure (step := fun d ρ' => lturn C own tg cnd elt d ρ') f (fun _ _ z => lturn_wip z) ds ρ rfl h
theorem lcY_pure {C : Ctx} {own : List Nat} {tg : T} {cnd elt : E} {ds : List D} {ρ : Env} (f : D → List OV) (hl : (ds.flatMap f).length < SZ) (h : ∀ d ∈ ds, ∃ ρ'', lturn C own tg cnd elt d ρ = some (f d, ρ'') ∧ wipC ρ'' own = wipC ρ own) :
    lcY C own tg cnd elt ds ρ = some (.ol (ds.flatMap f), ρ) := by
  obtain ⟨ρ', e, hw⟩ := lcX_pure f h
  unfold lcY
  rw [e]
  show gd (decide _) (some (OV.ol _, backE ρ ρ' own)) = _
  rw [decide_eq_true hl, bxE_wip hw]
  rfl
theorem flatMap_one {α β : Type} (f : α → β) : ∀ xs : List α, (xs.flatMap fun x => [f x]) = xs.map f
  | [] => rfl
  | x :: xs => by
    rw [List.flatMap_cons, flatMap_one f xs]
    rfl
/-- .. one thing a turn -/
theorem lcY_map {C : Ctx} {own : List Nat} {tg : T} {cnd elt : E} {ds : List D} {ρ : Env} (f : D → OV) (hl : ds.length < SZ) (h : ∀ d ∈ ds, ∃ ρ'', lturn C own tg cnd elt d ρ = some ([f d], ρ'') ∧ wipC ρ'' own = wipC ρ own) :
    lcY C own tg cnd elt ds ρ = some (.ol (ds.map f), ρ) := by
  rw [lcY_pure (fun d => [f d]) (by rw [flatMap_one, List.length_map]; exact hl) h, flatMap_one]
theorem lc2Y_pure {C : Ctx} {own own1 : List Nat} {tg tg1 : T} {it1 : It} {cnd elt : E} {ds : List D} {ρ : Env} (f : D → List OV) (hl : (ds.flatMap f).length < SZ) (h : ∀ d ∈ ds, ∃ ρ'', l2turn C own own1 tg tg1 it1 cnd elt d ρ = some (f d, ρ'') ∧ wipC ρ'' own = wipC ρ own) :
    lc2Y C own own1 tg tg1 it1 cnd elt ds ρ = some (.ol (ds.flatMap f), ρ) := by
  obtain ⟨ρ', e, hw⟩ := evL_pure (step := fun d ρ' => l2turn C own own1 tg tg1 it1 cnd elt d ρ') f (fun _ _ z => l2turn_wip z) ds ρ rfl h
  have e : lc2X C own own1 tg tg1 it1 cnd elt ds ρ = some (ds.flatMap f, ρ') := e
  unfold lc2Y
  rw [e]
  show gd (decide _) (some (OV.ol _, backE ρ ρ' own)) = _
  rw [decide_eq_true hl, bxE_wip hw]
  rfl
theorem forX_inv {C : Ctx} {t : T} {b : Ss} (P : Nat → Env → Prop) : ∀ (ds : List D) (k : Nat), (∀ d ∈ ds, ∀ j ρ, P (j + 1) ρ → ∃ ρ', P j ρ' ∧ turn C t b d ρ = some (.nx ρ')) → ∀ ρ, P (k + ds.length) ρ → ∃ ρ', P k ρ' ∧ forX C t b ds ρ = some (.nx ρ')
  | [], k, _, ρ, h => ⟨ρ, h, rfl⟩
  | d :: ds, k, hs, ρ, h => by
    obtain ⟨ρ1, h1, e1⟩ := hs d List.mem_cons_self (k + ds.length) ρ (by rw [List.length_cons] at h; exact h)
    obtain ⟨ρ2, h2, e2⟩ := forX_inv P ds k (fun d hd => hs d (List.mem_cons_of_mem _ hd)) ρ1 h1
    refine ⟨ρ2, h2, ?_⟩
    rw [q_forX_c, e1]
    exact e2
/-- by what has been walked and what is left -/
theorem forX_by {C : Ctx} {t : T} {b : Ss} (P : List D → List D → Env → Prop) : ∀ (ds pre : List D), (∀ d pre post ρ, P pre (d :: post) ρ → ∃ ρ', P (pre ++ [d]) post ρ' ∧ turn C t b d ρ = some (.nx ρ')) → ∀ ρ, P pre ds ρ → ∃ ρ', P (pre ++ ds) [] ρ' ∧ forX C t b ds ρ = some (.nx ρ')
  | [], pre, _, ρ, h => ⟨ρ, by rwa [List.append_nil], rfl⟩
  | d :: ds, pre, hs, ρ, h => by
    obtain ⟨ρ1, h1, e1⟩ := hs d pre ds ρ h
    obtain ⟨ρ2, h2, e2⟩ := forX_by P ds (pre ++ [d]) hs ρ1 h1
    refine ⟨ρ2, by rwa [List.append_assoc] at h2, ?_⟩
    rw [q_forX_c, e1]
    exact e2
/-- a while by its measure -/
theorem whX_by {C : Ctx} {t : E} {b : Ss} (P : Env → Prop) (Q : Env → Prop) (μ : Env → Nat) (hs : ∀ ρ, P ρ → (∃ ρ', wtest C t ρ = some (false, ρ') ∧ Q ρ') ∨ (∃ ρ1 ρ2, wtest C t ρ = some (true, ρ1) ∧ xSs C b ρ1 = some (.nx ρ2) ∧ P ρ2 ∧ μ ρ2 < μ ρ)) :
    ∀ (n : Nat) (ρ : Env), P ρ → μ ρ < n → ∃ ρ', Q ρ' ∧ whX C t b n ρ = some (.nx ρ')
  | 0, ρ, _, h => absurd h (Nat.not_lt_zero _)
  | n + 1, ρ, hp, h => by
    rcases hs ρ hp with ⟨ρ', e, q⟩ | ⟨ρ1, ρ2, e1, e2, p2, m2⟩
    · refine ⟨ρ', q, ?_⟩
      rw [q_whX, e]
      rfl
    · obtain ⟨ρ', q, e⟩ := whX_by P Q μ hs n ρ2 p2 (by omega)
      refine ⟨ρ', q, ?_⟩
      rw [q_whX, e1, xd_some, xs_true, e2, x1_some, xr_nx]
      exact e
end PF

/-! PF: the data operations' equations for simp. -/
namespace PF
open PySem
theorem q_add_int (i j : Int) : binD .add (.int i) (.int j) = some (.fz (.int (i + j))) := of_eq_true (eq_self _)
theorem q_add_list (xs ys : List D) : binD .add (.list xs) (.list ys) = gd (decide (xs.length + ys.length ≤ SZ)) (some (.ol (fzs (xs ++ ys)))) := of_eq_true (eq_self _)
theorem q_sub_int (i j : Int) : binD .sub (.int i) (.int j) = some (.fz (.int (i - j))) := of_eq_true (eq_self _)
theorem q_mul_tup (xs : List D) (j : Int) : binD .mul (.tuple xs) (.int j) = gd (decide (-1000 ≤ j ∧ j ≤ 1000 ∧ xs.length ≤ 1000)) (some (.fz (.tuple (List.replicate j.toNat xs).flatten))) := of_eq_true (eq_self _)
theorem q_mul_list (xs : List D) (j : Int) : binD .mul (.list xs) (.int j) = gd (decide (-(2 ^ 63) ≤ j ∧ j < 2 ^ 63 ∧ xs.length * j.toNat ≤ SZ)) (some (.ol (fzs (List.replicate j.toNat xs).flatten))) := of_eq_true (eq_self _)
theorem q_mul_int (i j : Int) : binD .mul (.int i) (.int j) = gd (mulOk i j) (some (.fz (.int (i * j)))) := of_eq_true (eq_self _)
theorem q_fdiv_int (i j : Int) : binD .fdiv (.int i) (.int j) = gd (divOk j) (some (.fz (.int (i.fdiv j)))) := of_eq_true (eq_self _)
theorem q_mod_int (i j : Int) : binD .mod (.int i) (.int j) = gd (decide (j ≠ 0)) (some (.fz (.int (i.fmod j)))) := of_eq_true (eq_self _)
theorem q_pow_int (i j : Int) : binD .pow (.int i) (.int j) = gd (powOk i j) (some (.fz (.int (i ^ j.toNat)))) := of_eq_true (eq_self _)
theorem q_tru_none  : truD .none = some false := of_eq_true (eq_self _)
theorem q_tru_bool (b : Bool) : truD (.bool b) = some b := of_eq_true (eq_self _)
theorem q_tru_int (i : Int) : truD (.int i) = some (i != 0) := of_eq_true (eq_self _)
theorem q_tru_list (xs : List D) : truD (.list xs) = some (!xs.isEmpty) := of_eq_true (eq_self _)
theorem q_tru_tuple (xs : List D) : truD (.tuple xs) = some (!xs.isEmpty) := of_eq_true (eq_self _)
theorem q_cmp_eq (x y : D) : cmpD .eq x y = gd (SeqAt.shaped x && SeqAt.shaped y) (some (PyData.eqv x y)) := of_eq_true (eq_self _)
theorem q_cmp_ne (x y : D) : cmpD .ne x y = gd (SeqAt.shaped x && SeqAt.shaped y) (some (!PyData.eqv x y)) := of_eq_true (eq_self _)
theorem q_cmp_lt (i j : Int) : cmpD .lt (.int i) (.int j) = some (decide (i < j)) := of_eq_true (eq_self _)
theorem q_cmp_le (i j : Int) : cmpD .le (.int i) (.int j) = some (decide (i ≤ j)) := of_eq_true (eq_self _)
theorem q_cmp_gt (i j : Int) : cmpD .gt (.int i) (.int j) = some (decide (j < i)) := of_eq_true (eq_self _)
theorem q_cmp_ge (i j : Int) : cmpD .ge (.int i) (.int j) = some (decide (j ≤ i)) := of_eq_true (eq_self _)
theorem q_cmp_inl (x : D) (ys : List D) : cmpD .inn x (.list ys) = gd (SeqAt.shaped x && SeqAt.shaped (.list ys)) (some (inD x ys)) := of_eq_true (eq_self _)
theorem q_cmp_int (x : D) (ys : List D) : cmpD .inn x (.tuple ys) = gd ((flatD x && ys.all flatD) || (SeqAt.shaped x && SeqAt.shaped (.tuple ys))) (some (inD x ys)) := of_eq_true (eq_self _)
theorem q_cmp_nil (x : D) (ys : List D) : cmpD .nin x (.list ys) = gd (SeqAt.shaped x && SeqAt.shaped (.list ys)) (some (!inD x ys)) := of_eq_true (eq_self _)
theorem q_cmp_nit (x : D) (ys : List D) : cmpD .nin x (.tuple ys) = gd ((flatD x && ys.all flatD) || (SeqAt.shaped x && SeqAt.shaped (.tuple ys))) (some (!inD x ys)) := of_eq_true (eq_self _)
theorem q_idx_list (xs : List D) (i : Int) : idxD (.list xs) (.int i) = atD xs i := of_eq_true (eq_self _)
theorem q_idx_tuple (xs : List D) (i : Int) : idxD (.tuple xs) (.int i) = atD xs i := of_eq_true (eq_self _)
theorem q_len_list (xs : List D) : bltD .len [.list xs] = some (.fz (.int xs.length)) := of_eq_true (eq_self _)
theorem q_len_tuple (xs : List D) : bltD .len [.tuple xs] = some (.fz (.int xs.length)) := of_eq_true (eq_self _)
theorem q_abs_int (i : Int) : bltD .abs [.int i] = some (.fz (.int (if i < 0 then -i else i))) := of_eq_true (eq_self _)
theorem q_int_int (i : Int) : bltD .int [.int i] = some (.fz (.int i)) := of_eq_true (eq_self _)
theorem q_int_bool (b : Bool) : bltD .int [.bool b] = some (.fz (.int (if b then 1 else 0))) := of_eq_true (eq_self _)
theorem q_min_two (i j : Int) : bltD .min [.int i, .int j] = some (.fz (.int (if j < i then j else i))) := of_eq_true (eq_self _)
theorem q_max_two (i j : Int) : bltD .max [.int i, .int j] = some (.fz (.int (if j > i then j else i))) := of_eq_true (eq_self _)
theorem q_list_list (xs : List D) : bltD .list [.list xs] = some (.ol (fzs xs)) := of_eq_true (eq_self _)
theorem q_list_tuple (xs : List D) : bltD .list [.tuple xs] = some (.ol (fzs xs)) := of_eq_true (eq_self _)
theorem q_tuple_list (xs : List D) : bltD .tuple [.list xs] = some (.fz (.tuple xs)) := of_eq_true (eq_self _)
theorem q_tuple_tuple (xs : List D) : bltD .tuple [.tuple xs] = some (.fz (.tuple xs)) := of_eq_true (eq_self _)
theorem q_slc_list (xs : List D) (lo hi : Option Int) : slcD (.list xs) lo hi = some (.ol (fzs (cutD xs lo hi))) := of_eq_true (eq_self _)
theorem q_slc_tuple (xs : List D) (lo hi : Option Int) : slcD (.tuple xs) lo hi = some (.fz (.tuple (cutD xs lo hi))) := of_eq_true (eq_self _)
theorem q_getF_0 (d : D) (ρ : Env) : getF (some (.fz d) :: ρ) 0 = some d := of_eq_true (eq_self _)
theorem q_getF_s (o : Option OV) (ρ : Env) (i : Nat) : getF (o :: ρ) (i + 1) = getF ρ i := of_eq_true (eq_self _)
theorem q_getL_0 (d : List OV) (ρ : Env) : getL (some (.ol d) :: ρ) 0 = some d := of_eq_true (eq_self _)
theorem q_getL_s (o : Option OV) (ρ : Env) (i : Nat) : getL (o :: ρ) (i + 1) = getL ρ i := of_eq_true (eq_self _)
theorem q_get_0 (o : OV) (ρ : Env) : PF.get (some o :: ρ) 0 = some o := of_eq_true (eq_self _)
theorem q_get_s (o : Option OV) (ρ : Env) (i : Nat) : PF.get (o :: ρ) (i + 1) = PF.get ρ i := of_eq_true (eq_self _)
theorem q_optI_n  : optI none = some none := of_eq_true (eq_self _)
theorem q_optI_s (i : Int) : optI (some (.int i)) = some (some i) := of_eq_true (eq_self _)
theorem q_items_l (xs : List D) : itemsD (.list xs) = some xs := of_eq_true (eq_self _)
theorem q_items_t (xs : List D) : itemsD (.tuple xs) = some xs := of_eq_true (eq_self _)
theorem q_listD_l (xs : List D) : listD (.list xs) = some xs := of_eq_true (eq_self _)
theorem q_zip_l (xs ys : List D) : zipD2 (.list xs) (.list ys) = some (zipD xs ys) := of_eq_true (eq_self _)
theorem q_lz_t (xs ys : List D) : lzD (.tuple xs) (.tuple ys) = gd (decide ((zipD xs ys).length ≤ SZ)) (some (.ol (fzs (zipD xs ys)))) := of_eq_true (eq_self _)
theorem q_lz (xs ys : List D) : lzD (.list xs) (.list ys) = gd (decide ((zipD xs ys).length ≤ SZ)) (some (.ol (fzs (zipD xs ys)))) := of_eq_true (eq_self _)
theorem q_listD_t (xs : List D) : listD (.tuple xs) = some xs := of_eq_true (eq_self _)
theorem q_zip_t (xs ys : List D) : zipD2 (.tuple xs) (.tuple ys) = some (zipD xs ys) := of_eq_true (eq_self _)
theorem q_zip_lt (xs ys : List D) : zipD2 (.list xs) (.tuple ys) = some (zipD xs ys) := of_eq_true (eq_self _)
theorem q_zip_tl (xs ys : List D) : zipD2 (.tuple xs) (.list ys) = some (zipD xs ys) := of_eq_true (eq_self _)
theorem q_cst_t (xs : List CA) : Cst.d (.tup xs) = .tuple (xs.map CA.d) := of_eq_true (eq_self _)
theorem q_ca_n : CA.d .non = .none := of_eq_true (eq_self _)
theorem q_ca_i (z : Int) : CA.d (.int z) = .int z := of_eq_true (eq_self _)
theorem q_ca_s (z : Str) : CA.d (.str z) = .str z := of_eq_true (eq_self _)
theorem q_srs_1 (x : Str) : p1D .srs (.list [.str x]) = some (.ol (fzs [.str x])) := of_eq_true (eq_self _)
theorem q_rev_l (xs : List D) : p1D .rev (.list xs) = some (.ol (fzs xs.reverse)) := of_eq_true (eq_self _)
theorem q_rpr (d : D) : p1D .rpr d = rprD d := of_eq_true (eq_self _)
theorem q_rev_t (xs : List D) : p1D .rev (.tuple xs) = some (.fz (.tuple xs.reverse)) := of_eq_true (eq_self _)
theorem q_d_fz (d : D) : OV.d (.fz d) = d := of_eq_true (eq_self _)
theorem q_d_ol (xs : List OV) : OV.d (.ol xs) = .list (OV.ds xs) := of_eq_true (eq_self _)
theorem q_d_ot (xs : List OV) : OV.d (.ot xs) = .tuple (OV.ds xs) := of_eq_true (eq_self _)
theorem q_ds_n  : OV.ds [] = [] := of_eq_true (eq_self _)
theorem q_ds_c (x : OV) (xs : List OV) : OV.ds (x :: xs) = x.d :: OV.ds xs := of_eq_true (eq_self _)
theorem q_outs_n (r : OV) (ρ : Env) : noOuts r ρ [] = some (r, ρ) := of_eq_true (eq_self _)
theorem q_forL_n (st : D → Env → Option Fl) (ρ : Env) : forL st [] ρ = some (.nx ρ) := of_eq_true (eq_self _)
theorem q_evL_n (st : D → Env → Option (List OV × Env)) (ρ : Env) : evL st [] ρ = some ([], ρ) := of_eq_true (eq_self _)
theorem q_evL_c (st : D → Env → Option (List OV × Env)) (d : D) (ds : List D) (ρ : Env) : evL st (d :: ds) ρ = xd (st d ρ) (fun o ρ1 => xd (evL st ds ρ1) (fun os ρ2 => some (o ++ os, ρ2)) .mk) .mk := of_eq_true (eq_self _)
theorem q_ty_int_none  : isTy .int .none = false := of_eq_true (eq_self _)
theorem q_ty_int_bool (b : Bool) : isTy .int (.bool b) = true := of_eq_true (eq_self _)
theorem q_ty_int_int (i : Int) : isTy .int (.int i) = true := of_eq_true (eq_self _)
theorem q_ty_int_str (s : Str) : isTy .int (.str s) = false := of_eq_true (eq_self _)
theorem q_ty_int_list (xs : List D) : isTy .int (.list xs) = false := of_eq_true (eq_self _)
theorem q_ty_int_tuple (xs : List D) : isTy .int (.tuple xs) = false := of_eq_true (eq_self _)
theorem q_ty_bool_none  : isTy .bool .none = false := of_eq_true (eq_self _)
theorem q_ty_bool_bool (b : Bool) : isTy .bool (.bool b) = true := of_eq_true (eq_self _)
theorem q_ty_bool_int (i : Int) : isTy .bool (.int i) = false := of_eq_true (eq_self _)
theorem q_ty_bool_str (s : Str) : isTy .bool (.str s) = false := of_eq_true (eq_self _)
theorem q_ty_bool_list (xs : List D) : isTy .bool (.list xs) = false := of_eq_true (eq_self _)
theorem q_ty_bool_tuple (xs : List D) : isTy .bool (.tuple xs) = false := of_eq_true (eq_self _)
theorem q_ty_str_none  : isTy .str .none = false := of_eq_true (eq_self _)
theorem q_ty_str_bool (b : Bool) : isTy .str (.bool b) = false := of_eq_true (eq_self _)
theorem q_ty_str_int (i : Int) : isTy .str (.int i) = false := of_eq_true (eq_self _)
theorem q_ty_str_str (s : Str) : isTy .str (.str s) = true := of_eq_true (eq_self _)
theorem q_ty_str_list (xs : List D) : isTy .str (.list xs) = false := of_eq_true (eq_self _)
theorem q_ty_str_tuple (xs : List D) : isTy .str (.tuple xs) = false := of_eq_true (eq_self _)
theorem q_ty_list_none  : isTy .list .none = false := of_eq_true (eq_self _)
theorem q_ty_list_bool (b : Bool) : isTy .list (.bool b) = false := of_eq_true (eq_self _)
theorem q_ty_list_int (i : Int) : isTy .list (.int i) = false := of_eq_true (eq_self _)
theorem q_ty_list_str (s : Str) : isTy .list (.str s) = false := of_eq_true (eq_self _)
theorem q_ty_list_list (xs : List D) : isTy .list (.list xs) = true := of_eq_true (eq_self _)
theorem q_ty_list_tuple (xs : List D) : isTy .list (.tuple xs) = false := of_eq_true (eq_self _)
theorem q_ty_tuple_none  : isTy .tuple .none = false := of_eq_true (eq_self _)
theorem q_ty_tuple_bool (b : Bool) : isTy .tuple (.bool b) = false := of_eq_true (eq_self _)
theorem q_ty_tuple_int (i : Int) : isTy .tuple (.int i) = false := of_eq_true (eq_self _)
theorem q_ty_tuple_str (s : Str) : isTy .tuple (.str s) = false := of_eq_true (eq_self _)
theorem q_ty_tuple_list (xs : List D) : isTy .tuple (.list xs) = false := of_eq_true (eq_self _)
theorem q_ty_tuple_tuple (xs : List D) : isTy .tuple (.tuple xs) = true := of_eq_true (eq_self _)
theorem q_at (xs : List α) (k : Nat) : atD xs (no_index (@OfNat.ofNat Int k _)) = xs[(OfNat.ofNat k : Nat)]? := by
  show b1 (ixN xs.length ((k : Nat) : Int)) _ = xs[k]?
  unfold ixN
  rw [if_pos (by omega)]
  by_cases h : (k : Int) < (xs.length : Int)
  · rw [if_pos h]; rfl
  · rw [if_neg h, List.getElem?_eq_none (by omega)]; rfl
theorem q_ix (n : Nat) (k : Nat) : ixN n (no_index (@OfNat.ofNat Int k _)) = gd (decide ((OfNat.ofNat k : Nat) < n)) (some (OfNat.ofNat k)) := by
  show ixN n ((k : Nat) : Int) = gd (decide (k < n)) (some k)
  unfold ixN
  rw [if_pos (by omega)]
  by_cases h : k < n
  · rw [if_pos (by omega), decide_eq_true h]; rfl
  · rw [if_neg (by omega), decide_eq_false h]; rfl
theorem q_par_n (ρ : Env) : setPar [] [] ρ = some ρ := of_eq_true (eq_self _)
theorem q_par_t (i : Nat) (is : List (Nat × Bool)) (o : OV) (os : List OV) (ρ : Env) : setPar ((i, true) :: is) (o :: os) ρ = setPar is os (ρ.set i (some (.fz o.d))) := of_eq_true (eq_self _)
theorem q_par_f (i : Nat) (is : List (Nat × Bool)) (o : OV) (os : List OV) (ρ : Env) : setPar ((i, false) :: is) (o :: os) ρ = setPar is os (ρ.set i (some o)) := of_eq_true (eq_self _)
theorem pow_lit (i : Int) (k : Nat) (r : Int) (h : powOk i (k : Nat) = true) (e : i ^ k = r) : binD .pow (.int i) (.int (k : Nat)) = some (.fz (.int r)) := by
  show gd (powOk i (k : Nat)) (some (OV.fz (.int (i ^ k)))) = _
  rw [h, e]
  rfl
theorem q_pow7 : binD .pow (.int 10) (.int 7) = some (.fz (.int 10000000)) := pow_lit 10 7 _ (by decide) (by decide)
theorem q_pow18 : binD .pow (.int 10) (.int 18) = some (.fz (.int 1000000000000000000)) := pow_lit 10 18 _ (by decide) (by decide)
theorem q_pow20 : binD .pow (.int 10) (.int 20) = some (.fz (.int 100000000000000000000)) := pow_lit 10 20 _ (by decide) (by decide)
theorem q_bT_nm (i : Nat) (d : D) (ρ : Env) : bindT (.nm i) d ρ = some (ρ.set i (some (.fz d))) := of_eq_true (eq_self _)
theorem q_bT_tl (ts : Ts) (ds : List D) (ρ : Env) : bindT (.tp ts) (.list ds) ρ = bindTs ts ds ρ := of_eq_true (eq_self _)
theorem q_add_tup (xs ys : List D) : binD .add (.tuple xs) (.tuple ys) = gd (decide (xs.length + ys.length ≤ SZ)) (some (.fz (.tuple (xs ++ ys)))) := of_eq_true (eq_self _)
theorem q_add_str (x y : Str) : binD .add (.str x) (.str y) = gd (decide (x.length + y.length ≤ SZ)) (some (.fz (.str (x ++ y)))) := of_eq_true (eq_self _)
theorem q_frE_n : frE [] = [] := of_eq_true (eq_self _)
theorem q_frE_0 (ρ : Env) : frE (none :: ρ) = none :: frE ρ := of_eq_true (eq_self _)
theorem q_frE_s (o : OV) (ρ : Env) : frE (some o :: ρ) = some (.fz o.d) :: frE ρ := of_eq_true (eq_self _)
theorem q_immO_f (d : D) : immO (.fz d) = immD d := of_eq_true (eq_self _)
theorem q_immO_l (xs : List OV) : immO (.ol xs) = immOs xs := of_eq_true (eq_self _)
theorem q_immO_t (xs : List OV) : immO (.ot xs) = immOs xs := of_eq_true (eq_self _)
theorem q_immOs_n : immOs [] = true := of_eq_true (eq_self _)
theorem q_immOs_c (x : OV) (xs : List OV) : immOs (x :: xs) = (immO x && immOs xs) := of_eq_true (eq_self _)
theorem q_immD_n : immD .none = true := of_eq_true (eq_self _)
theorem q_immD_b (b : Bool) : immD (.bool b) = true := of_eq_true (eq_self _)
theorem q_immD_i (b : Int) : immD (.int b) = true := of_eq_true (eq_self _)
theorem q_immD_s (b : Str) : immD (.str b) = true := of_eq_true (eq_self _)
theorem q_immD_t (b : List D) : immD (.tuple b) = immDs b := of_eq_true (eq_self _)
theorem q_immDs_n : immDs [] = true := of_eq_true (eq_self _)
theorem q_immDs_c (x : D) (xs : List D) : immDs (x :: xs) = (immD x && immDs xs) := of_eq_true (eq_self _)
theorem q_str_int (i : Int) : bltD .str [.int i] = gd (decide (i.natAbs.log2 < 1920)) (some (.fz (.str (strI i)))) := of_eq_true (eq_self _)
theorem q_str_str (z : Str) : bltD .str [.str z] = some (.fz (.str z)) := of_eq_true (eq_self _)
theorem q_txt_int (i : Int) : txtD (.int i) = gd (decide (i.natAbs.log2 < 1920)) (some (strI i)) := of_eq_true (eq_self _)
theorem q_txt_str (z : Str) : txtD (.str z) = gd (decide (z.length ≤ SZ)) (some z) := of_eq_true (eq_self _)
theorem q_cat_n (a : Str) : catD a [] = some a := of_eq_true (eq_self _)
theorem q_cat_c (a z : Str) (r : List D) : catD a (.str z :: r) = gd (decide ((a ++ z).length ≤ SZ)) (catD (a ++ z) r) := of_eq_true (eq_self _)
theorem q_cst_s (z : Str) : Cst.d (.str z) = .str z := of_eq_true (eq_self _)
theorem q_cst_i (z : Int) : Cst.d (.int z) = .int z := of_eq_true (eq_self _)
theorem q_eqb (a b : Bool) : cmpD .eq (.bool a) (.bool b) = some (a == b) := of_eq_true (eq_self _)
theorem q_neb (a b : Bool) : cmpD .ne (.bool a) (.bool b) = some (!(a == b)) := of_eq_true (eq_self _)
theorem q_eqi (a b : Int) : cmpD .eq (.int a) (.int b) = some (a == b) := of_eq_true (eq_self _)
theorem q_nei (a b : Int) : cmpD .ne (.int a) (.int b) = some (!(a == b)) := of_eq_true (eq_self _)
theorem q_eqn : cmpD .eq .none .none = some true := of_eq_true (eq_self _)
theorem q_isb (m b c : Bool) : isbV m b c = (if m then !decide (c = b) else decide (c = b)) := of_eq_true (eq_self _)
theorem q_bT_tp (ts : Ts) (ds : List D) (ρ : Env) : bindT (.tp ts) (.tuple ds) ρ = bindTs ts ds ρ := of_eq_true (eq_self _)
theorem q_bTs_n (ρ : Env) : bindTs .nil [] ρ = some ρ := of_eq_true (eq_self _)
theorem q_bTs_c (t : T) (ts : Ts) (d : D) (ds : List D) (ρ : Env) : bindTs (.cons t ts) (d :: ds) ρ = x1 (bindT t d ρ) (fun ρ' => bindTs ts ds ρ') .mk := of_eq_true (eq_self _)
theorem q_res_n (ρ : Env) : resolve ρ [] = some [] := of_eq_true (eq_self _)
theorem q_res_l (ρ : Env) (o : OV) (r : List Ag) : resolve ρ (.inl o :: r) = x1 (resolve ρ r) (fun os => some (o :: os)) .mk := of_eq_true (eq_self _)
theorem q_res_r (ρ : Env) (i : Nat) (r : List Ag) : resolve ρ (.inr i :: r) = x1 (getL ρ i) (fun xs => x1 (resolve ρ r) (fun os => some (.ol xs :: os)) .mk) .mk := of_eq_true (eq_self _)
theorem q_slo_n : slotsOf [] = [] := of_eq_true (eq_self _)
theorem q_slo_l (o : OV) (r : List Ag) : slotsOf (.inl o :: r) = slotsOf r := of_eq_true (eq_self _)
theorem q_slo_r (i : Nat) (r : List Ag) : slotsOf (.inr i :: r) = i :: slotsOf r := of_eq_true (eq_self _)
theorem q_put_n (ρ : Env) : putBack [] [] ρ = some ρ := of_eq_true (eq_self _)
theorem q_put_c (i : Nat) (is : List Nat) (o : OV) (os : List OV) (ρ : Env) : putBack (i :: is) (o :: os) ρ = putBack is os (ρ.set i (some o)) := of_eq_true (eq_self _)
theorem q_wip_n (ρ : Env) : wipeE ρ [] = ρ := of_eq_true (eq_self _)
theorem q_wip_c (ρ : Env) (i : Nat) (is : List Nat) : wipeE ρ (i :: is) = wipeE (ρ.set i none) is := of_eq_true (eq_self _)
theorem q_wiC_n (ρ : Env) : wipC ρ [] = ρ := of_eq_true (eq_self _)
theorem q_wiC_c (ρ : Env) (i : Nat) (is : List Nat) : wipC ρ (i :: is) = (wipC ρ is).set i none := of_eq_true (eq_self _)
theorem q_bkE_n (ρ ρ' : Env) : backE ρ ρ' [] = ρ' := of_eq_true (eq_self _)
theorem q_bkE_c (ρ ρ' : Env) (i : Nat) (is : List Nat) : backE ρ ρ' (i :: is) = backE ρ (ρ'.set i (jn ρ[i]?)) is := of_eq_true (eq_self _)
theorem q_jn (x : Option β) : jn (some x) = x := of_eq_true (eq_self _)
theorem q_prm_n (os : List OV) : permD [] os = some [] := of_eq_true (eq_self _)
theorem q_prm_c (i : Nat) (is : List Nat) (os : List OV) : permD (i :: is) os = x1 os[i]? (fun o => x1 (permD is os) (fun r => some (o :: r)) .mk) .mk := of_eq_true (eq_self _)
theorem q_fzs_n : fzs [] = [] := of_eq_true (eq_self _)
theorem q_fzs_c (d : D) (ds : List D) : fzs (d :: ds) = .fz d :: fzs ds := of_eq_true (eq_self _)
theorem q_alz_n : allFz [] = some [] := of_eq_true (eq_self _)
theorem q_alz_c (d : D) (xs : List OV) : allFz (.fz d :: xs) = x1 (allFz xs) (fun ds => some (d :: ds)) .mk := of_eq_true (eq_self _)
theorem q_alz_l (d : List OV) (xs : List OV) : allFz (.ol d :: xs) = none := of_eq_true (eq_self _)
theorem q_alz_t (d : List OV) (xs : List OV) : allFz (.ot d :: xs) = none := of_eq_true (eq_self _)
def mkTup2 (xs : List OV) (o : Option (List D)) : OV := match o with
  | some ds => .fz (.tuple ds)
  | none => .ot xs
theorem q_mkT (xs : List OV) : mkTup xs = mkTup2 xs (allFz xs) := of_eq_true (eq_self _)
theorem q_mkT_s (xs : List OV) (ds : List D) : mkTup2 xs (some ds) = .fz (.tuple ds) := of_eq_true (eq_self _)
theorem q_mkT_n (xs : List OV) : mkTup2 xs none = .ot xs := of_eq_true (eq_self _)
theorem q_out_n (ρ : Env) : outsOf ρ [] = some [] := of_eq_true (eq_self _)
theorem q_out_c (ρ : Env) (i : Nat) (is : List Nat) : outsOf ρ (i :: is) = x1 (getL ρ i) (fun xs => x1 (outsOf ρ is) (fun os => some (.ol xs :: os)) .mk) .mk := of_eq_true (eq_self _)
theorem q_end_r (f : Fn) (o : OV) (ρ : Env) : xEnd f (.rt o ρ) = x1 (outsOf ρ f.io) (fun os => some (o, os)) .mk := of_eq_true (eq_self _)
theorem q_end_n (f : Fn) (ρ : Env) : xEnd f (.nx ρ) = x1 (outsOf ρ f.io) (fun os => some (.fz .none, os)) .mk := of_eq_true (eq_self _)
theorem q_b1x (o : Option α) (k : α → Option γ) : b1 o k = x1 o k .mk := of_eq_true (eq_self _)
theorem q_le_0 : decide (0 ≤ SZ) = true := by decide
theorem q_lt_0 : decide (0 < SZ) = true := by decide
theorem q_le_1 : decide (1 ≤ SZ) = true := by decide
theorem q_lt_1 : decide (1 < SZ) = true := by decide
theorem q_le_2 : decide (2 ≤ SZ) = true := by decide
theorem q_lt_2 : decide (2 < SZ) = true := by decide
theorem q_le_3 : decide (3 ≤ SZ) = true := by decide
theorem q_lt_3 : decide (3 < SZ) = true := by decide
theorem q_le_4 : decide (4 ≤ SZ) = true := by decide
theorem q_lt_4 : decide (4 < SZ) = true := by decide
theorem q_le_5 : decide (5 ≤ SZ) = true := by decide
theorem q_lt_5 : decide (5 < SZ) = true := by decide
theorem q_le_6 : decide (6 ≤ SZ) = true := by decide
theorem q_lt_6 : decide (6 < SZ) = true := by decide
theorem q_le_7 : decide (7 ≤ SZ) = true := by decide
theorem q_lt_7 : decide (7 < SZ) = true := by decide
theorem q_le_8 : decide (8 ≤ SZ) = true := by decide
theorem q_lt_8 : decide (8 < SZ) = true := by decide
theorem q_le_9 : decide (9 ≤ SZ) = true := by decide
theorem q_lt_9 : decide (9 < SZ) = true := by decide
theorem q_le_10 : decide (10 ≤ SZ) = true := by decide
theorem q_lt_10 : decide (10 < SZ) = true := by decide
theorem q_le_11 : decide (11 ≤ SZ) = true := by decide
theorem q_lt_11 : decide (11 < SZ) = true := by decide
theorem q_le_12 : decide (12 ≤ SZ) = true := by decide
theorem q_lt_12 : decide (12 < SZ) = true := by decide
theorem q_gd (k : Option γ) : gd true k = k := of_eq_true (eq_self _)
theorem q_bd (a : α) (b : β) (k : α → β → Option γ) : bd (some (a, b)) k = k a b := of_eq_true (eq_self _)
theorem q_b1 (a : α) (k : α → Option γ) : b1 (some a) k = k a := of_eq_true (eq_self _)
end PF

/-! PF: the laws' common draws: box, take, cells, of, same. -/
namespace PF
open PySem
local macro_rules | `(tactic| walk_at "ev") => `(tactic| simp only [xRun, startE, List.map_cons, List.map_nil, List.length_cons, List.length_nil, Nat.zero_add, Nat.reduceAdd, Nat.reduceSub, decide_true, xg_true, List.cons_append, List.nil_append, List.append_nil, List.getElem?_cons_zero, List.getElem?_cons_succ, List.replicate, List.set_cons_zero, List.set_cons_succ, x1_some, xd_some, xi_int, xz_fz, xl_ol, xf_nx, xf_rt, xf_bk, xf_ct, q_par_n, q_par_t, q_par_f, xs_true, xs_false, xn_none, xn_int, xn_bool, xn_str, xn_list, xn_tuple, Int.cast_ofNat_Int, Int.reduceToNat, Int.reduceLE, Int.reduceLT, Int.reducePow, Int.reduceNeg, Int.reduceAdd, Int.reduceSub, Int.reduceMul, Int.reduceBEq, Int.reduceBNe, if_true, if_false, ↓reduceIte, Int.toNat_zero, e_xE_0, e_xE_1, e_xE_2, e_xE_3, e_xE_4, e_xE_5, e_xE_6, e_xE_7, e_xE_8, e_xE_9, e_xE_10, e_xE_11, e_xE_12, e_xE_13, e_xE_14, e_xE_15, e_xE_16, e_xE_17, e_xE_18, e_xE_19, e_xE_20, e_xE_21, e_xE_22, e_xE_23, e_xE_24, e_xO_0, e_xO_1, e_xEs_0, e_xEs_1, e_xA_0, e_xA_1, e_xA_2, e_xI_0, e_xI_1, e_xI_2, e_xI_3, e_xI_4, e_xS_0, e_xS_1, e_xS_2, e_xS_3, e_xS_4, e_xS_5, e_xS_6, e_xS_7, e_xS_8, e_xS_9, e_xS_10, e_xS_11, e_xS_12, e_xS_13, e_xS_14, e_xS_15, e_xS_16, e_xSs_0, e_xSs_1, q_add_int, q_add_list, q_sub_int, q_mul_int, q_fdiv_int, q_mod_int, q_pow7, q_pow18, q_pow20, q_tru_none, q_tru_bool, q_tru_int, q_tru_list, q_tru_tuple, q_cmp_lt, q_cmp_le, q_cmp_gt, q_cmp_ge, q_idx_list, q_idx_tuple, q_len_list, q_len_tuple, q_abs_int, q_int_int, q_int_bool, q_min_two, q_max_two, q_list_list, q_list_tuple, q_tuple_list, q_tuple_tuple, q_slc_list, q_slc_tuple, q_getF_0, q_getF_s, q_getL_0, q_getL_s, q_get_0, q_get_s, q_optI_n, q_optI_s, q_items_l, q_items_t, q_listD_l, q_zip_l, q_zip_t, q_d_fz, q_d_ol, q_d_ot, q_ds_n, q_ds_c, q_outs_n, q_ty_int_none, q_ty_int_bool, q_ty_int_int, q_ty_int_str, q_ty_int_list, q_ty_int_tuple, q_ty_bool_none, q_ty_bool_bool, q_ty_bool_int, q_ty_bool_str, q_ty_bool_list, q_ty_bool_tuple, q_ty_str_none, q_ty_str_bool, q_ty_str_int, q_ty_str_str, q_ty_str_list, q_ty_str_tuple, q_ty_list_none, q_ty_list_bool, q_ty_list_int, q_ty_list_str, q_ty_list_list, q_ty_list_tuple, q_ty_tuple_none, q_ty_tuple_bool, q_ty_tuple_int, q_ty_tuple_str, q_ty_tuple_list, q_ty_tuple_tuple, q_at, q_ix, q_gd, q_bd, q_b1, List.not_mem_nil, not_false_eq_true, List.any_cons, List.any_nil, Bool.or_true, Bool.true_or, Bool.or_false, Bool.false_or, Bool.not_true, Bool.not_false, Bool.and_true, Bool.true_and, Bool.and_false, Bool.false_and, Nat.reduceLT, Nat.reduceLeDiff, bne_self_eq_false, Int.toNat_natCast, q_bT_nm, q_bT_tp, q_bTs_n, q_bTs_c, q_res_n, q_res_l, q_res_r, q_slo_n, q_slo_l, q_slo_r, q_put_n, q_put_c, q_wip_n, q_wip_c, q_wiC_n, q_wiC_c, q_bkE_n, q_bkE_c, q_jn, q_prm_n, q_prm_c, q_fzs_n, q_fzs_c, q_alz_n, q_alz_c, q_alz_l, q_alz_t, q_mkT, q_mkT_s, q_mkT_n, q_out_n, q_out_c, q_end_r, q_end_n, xnd_none, xnd_bool, xnd_int, xnd_str, xnd_list, xnd_tuple, beq_self_eq_true, ds_fzs, Bool.false_eq_true, q_le_0, q_lt_0, q_le_1, q_lt_1, q_le_2, q_lt_2, q_le_3, q_lt_3, q_le_4, q_lt_4, q_le_5, q_lt_5, q_le_6, q_lt_6, q_le_7, q_lt_7, q_le_8, q_lt_8, q_le_9, q_lt_9, q_le_10, q_lt_10, q_le_11, q_lt_11, q_le_12, q_lt_12, e_xE_25, e_xE_26, e_xE_27, e_xE_28, e_xE_29, e_xE_30, e_xE_31, e_xE_32, e_xS_17, e_xS_18, e_xS_19, xb_bool, q_bT_tl, q_add_tup, q_add_str, q_frE_n, q_frE_0, q_frE_s, q_immO_f, q_immO_l, q_immO_t, q_immOs_n, q_immOs_c, q_immD_n, q_immD_b, q_immD_i, q_immD_s, q_immD_t, q_immDs_n, q_immDs_c, q_str_int, q_str_str, q_txt_int, q_txt_str, q_cat_n, q_cat_c, q_cst_s, q_cst_i, q_isb, xr_nx, xr_ct, xr_bk, xr_rt, q_lturn, q_l2turn, q_turn, q_wtest, q_lcX_n, q_lcX_c, q_lcY_n, q_lcY_c, q_lc2X_n, q_lc2X_c, q_lc2Y_n, q_lc2Y_c, q_forX_n, q_forX_c, q_eqb, q_neb, q_eqi, q_nei, q_eqn, List.isEmpty_cons, List.isEmpty_nil, decide_false, q_zip_lt, q_zip_tl, q_cst_t, q_ca_n, q_ca_i, q_ca_s, q_rev_l, q_rev_t, e_xE_33, *])
def fBox : Fn := ⟨2, 3, [], (.cons (.asg true (.nm 2) (.ite (.cmp .lt (.v 1) (.blt .len (.cons (.v 0) .nil))) (.idx (.v 0) (.v 1)) (.c (.int 0)))) (.cons (.ret (.lst (.cons (.bin .mul (.blt .abs (.cons (.v 2) .nil)) (.blt .int (.cons (.cmp .ge (.blt .abs (.cons (.v 2) .nil)) (.bin .pow (.c (.int 10)) (.c (.int 18)))) .nil))) (.cons (.bin .add (.bin .add (.bin .mod (.v 2) (.c (.int 2305843009213693951))) (.bin .mul (.c (.int 39373)) (.v 1))) (.c (.int 71))) (.cons (.c (.int 0)) .nil))))) .nil))⟩
def fTake (t : Nat) : Fn := ⟨2, 5, [0], (.cons (.iff (.cmp .gt (.idxO 0 (.c (.int 0))) (.c (.int 0))) (.cons (.asg true (.nm 4) (.bin .mod (.idxO 0 (.c (.int 0))) (.v 1))) (.cons (.setO 0 (.c (.int 0)) (.bin .fdiv (.idxO 0 (.c (.int 0))) (.v 1))) (.cons (.ret (.v 4)) .nil))) .nil) (.cons (.iff (.cmp .gt (.v 1) (.bin .pow (.c (.int 10)) (.c (.int 7)))) (.cons (.ret (.bin .mod (.bin .add (.call t (.io 0 (.ev (.bin .pow (.c (.int 10)) (.c (.int 7))) .nil))) (.bin .mul (.bin .pow (.c (.int 10)) (.c (.int 7))) (.call t (.io 0 (.ev (.bin .add (.bin .fdiv (.bin .sub (.v 1) (.c (.int 1))) (.bin .pow (.c (.int 10)) (.c (.int 7)))) (.c (.int 1))) .nil))))) (.v 1))) .nil) .nil) (.cons (.setO 0 (.c (.int 2)) (.bin .add (.idxO 0 (.c (.int 2))) (.c (.int 1)))) (.cons (.asg true (.nm 2) (.bin .mod (.bin .mul (.bin .add (.idxO 0 (.c (.int 1))) (.bin .mul (.c (.int 48271)) (.idxO 0 (.c (.int 2))))) (.bin .add (.c (.int 39373)) (.idxO 0 (.c (.int 2))))) (.c (.int 2147483647)))) (.cons (.asg true (.nm 3) (.bin .mod (.bin .mul (.bin .add (.bin .add (.v 2) (.idxO 0 (.c (.int 2)))) (.bin .fdiv (.idxO 0 (.c (.int 1))) (.c (.int 1000003)))) (.bin .add (.bin .mod (.v 2) (.c (.int 40009))) (.c (.int 7)))) (.c (.int 2147483629)))) (.cons (.ret (.bin .mod (.bin .fdiv (.bin .mod (.bin .add (.bin .mul (.v 3) (.c (.int 48271))) (.v 2)) (.c (.int 2147483587))) (.c (.int 64))) (.v 1))) .nil))))))⟩
def fCells : Fn := ⟨2, 5, [], (.cons (.asg false (.nm 2) (.orr (.blt .list (.cons (.slc (.v 0) .no (.ye (.v 1))) .nil)) (.lst (.cons (.c (.int 0)) .nil)))) (.cons (.for_ (.tp (.cons (.nm 3) (.cons (.nm 4) .nil))) (.enum (.slc (.v 0) (.ye (.v 1)) (.ye (.c (.int 63))))) (.cons (.setO 2 (.bin .mod (.v 3) (.v 1)) (.bin .add (.idxO 2 (.bin .mod (.v 3) (.v 1))) (.bin .mul (.v 4) (.bin .add (.v 3) (.c (.int 2)))))) .nil)) (.cons (.ret (.mv 2)) .nil)))⟩
def fOf (t : Nat) : Fn := ⟨2, 2, [0], (.cons (.ret (.idx (.v 1) (.call t (.io 0 (.ev (.blt .len (.cons (.v 1) .nil)) .nil))))) .nil)⟩
def fSame (t : Nat) : Fn := ⟨2, 4, [], (.cons (.iff (.isi [.list, .tuple] (.v 1)) (.cons (.iff (.orr (.cmp .ne (.isi [.list] (.v 0)) (.isi [.list] (.v 1))) (.cmp .ne (.isi [.tuple] (.v 0)) (.isi [.tuple] (.v 1)))) (.cons (.ret (.c (.bool false))) .nil) .nil) (.cons (.ret (.an (.cmp .eq (.blt .len (.cons (.v 0) .nil)) (.blt .len (.cons (.v 1) .nil))) (.blt .all (.cons (.lc [2, 3] (.tp (.cons (.nm 2) (.cons (.nm 3) .nil))) (.zip (.v 0) (.v 1)) (.c (.bool true)) (.call t (.ev (.v 2) (.ev (.v 3) .nil)))) .nil)))) .nil)) .nil) (.cons (.iff (.orr (.isn false (.v 1)) (.isi [.bool, .str] (.v 1))) (.cons (.ret (.an (.cmp .eq (.v 0) (.v 1)) (.an (.cmp .eq (.isi [.bool] (.v 0)) (.isi [.bool] (.v 1))) (.cmp .eq (.isn false (.v 0)) (.isn false (.v 1)))))) .nil) .nil) (.cons (.ret (.an (.isi [.int] (.v 0)) (.an (.nt (.isi [.bool] (.v 0))) (.cmp .eq (.v 0) (.v 1))))) .nil)))⟩
abbrev oI (a : Int) : OV := .fz (.int a)
theorem divOk_of {k : Int} (h : 0 < k) (h2 : k < 2 ^ 64) : divOk k = true := by
  unfold divOk
  have : k.natAbs.log2 < 64 := by
    rw [Nat.log2_lt (by omega)]
    omega
  simp only [Bool.and_eq_true, decide_eq_true_eq]
  exact ⟨by omega, by omega⟩
theorem mulOk_l {i j : Int} (h : -(2 ^ 64) < i) (h2 : i < 2 ^ 64) : mulOk i j = true := by
  unfold mulOk
  rw [decide_eq_true (Or.inl ⟨h, h2⟩)]
  rfl
theorem mulOk_r {i j : Int} (h : -(2 ^ 64) < j) (h2 : j < 2 ^ 64) : mulOk i j = true := by
  unfold mulOk
  rw [decide_eq_true (Or.inr ⟨h, h2⟩)]
  rfl
def Bx (m : Nat) (l : List OV) : Prop := ∃ a b c : Int, l = [oI a, oI b, oI c] ∧ 0 ≤ c ∧ c + m < 2 ^ 62
theorem Bx.mono {m m' : Nat} {l : List OV} (h : Bx m l) (hm : m' ≤ m) : Bx m' l := by
  obtain ⟨a, b, c, rfl, h1, h2⟩ := h
  exact ⟨a, b, c, rfl, h1, by omega⟩
section
variable {F : List Fn} {t : Nat}
theorem take_big (h : F[t]? = some (fTake t)) (W n : Nat) {a b c k : Int} (h0 : 0 < a) (hk : 0 < k) (hd : k < 2 ^ 64) : evF F W (n + 1) t [.ol [oI a, oI b, oI c], oI k] = some (oI (a.fmod k), [.ol [oI (a.fdiv k), oI b, oI c]]) := by
  have e : decide (0 < a) = true := decide_eq_true h0
  have e2 : decide (k ≠ 0) = true := decide_eq_true (by omega)
  have e3 := divOk_of hk hd
  rw [ev_call h]
  clear h h0 hk hd
  unfold fTake
  walk_at "ev"
def drw (b c : Int) : Int × Int :=
  let x := ((b + 48271 * (c + 1)) * (39373 + (c + 1))).fmod 2147483647
  let y := ((x + (c + 1) + b.fdiv 1000003) * (x.fmod 40009 + 7)).fmod 2147483629
  (x, y)
theorem take_small (h : F[t]? = some (fTake t)) (W n : Nat) {a b c k : Int} (h0 : ¬ 0 < a) (hk : 0 < k) (hd : k ≤ 10 ^ 7) (hc : 0 ≤ c) (hc2 : c < 2 ^ 62) : ∃ r : Int, 0 ≤ r ∧ evF F W (n + 1) t [.ol [oI a, oI b, oI c], oI k] = some (oI (r.fmod k), [.ol [oI a, oI b, oI (c + 1)]]) := by
  have e : decide (0 < a) = false := decide_eq_false h0
  have e2 : decide (k ≠ 0) = true := decide_eq_true (by omega)
  have e3 : decide (10000000 < k) = false := decide_eq_false (by omega)
  have m1 : mulOk 48271 (c + 1) = true := mulOk_l (by decide) (by decide)
  have m2 : mulOk (b + 48271 * (c + 1)) (39373 + (c + 1)) = true := mulOk_r (by omega) (by omega)
  have d1 : divOk 1000003 = true := by decide
  have d2 : divOk 64 = true := by decide
  obtain ⟨x, hx⟩ : ∃ x, x = ((b + 48271 * (c + 1)) * (39373 + (c + 1))).fmod 2147483647 := ⟨_, rfl⟩
  have x1 : 0 ≤ x := hx ▸ Int.fmod_nonneg_of_pos _ (by decide)
  have m3 : mulOk (x + (c + 1) + b.fdiv 1000003) (x.fmod 40009 + 7) = true := by
    have := Int.fmod_nonneg_of_pos x (b := 40009) (by decide)
    have := Int.fmod_lt_of_pos x (b := 40009) (by decide)
    exact mulOk_r (by omega) (by omega)
  obtain ⟨y, hy⟩ : ∃ y, y = ((x + (c + 1) + b.fdiv 1000003) * (x.fmod 40009 + 7)).fmod 2147483629 := ⟨_, rfl⟩
  have m4 : mulOk y 48271 = true := mulOk_r (by decide) (by decide)
  have z0 := Int.fmod_nonneg_of_pos (y * 48271 + x) (b := 2147483587) (by decide)
  refine ⟨((y * 48271 + x).fmod 2147483587).fdiv 64, Int.fdiv_nonneg z0 (by decide), ?_⟩
  have q1 : decide ((2147483647 : Int) ≠ 0) = true := by decide
  have q2 : decide ((2147483629 : Int) ≠ 0) = true := by decide
  have q3 : decide ((2147483587 : Int) ≠ 0) = true := by decide
  have q4 : decide ((40009 : Int) ≠ 0) = true := by decide
  have q5 : powOk 10 7 = true := by decide
  replace hx := hx.symm
  replace hy := hy.symm
  rw [ev_call h]
  clear h h0 hk hd hc hc2 z0 x1
  unfold fTake
  walk_at "ev"
theorem take_spec (h : F[t]? = some (fTake t)) (W n : Nat) {m : Nat} {k : Int} {l : List OV} (b : Bx (m + 1) l) (hk : 0 < k) (hd : k ≤ 10 ^ 7) : ∃ (r : Int) (l' : List OV), evF F W (n + 1) t [.ol l, oI k] = some (oI r, [.ol l']) ∧ Bx m l' ∧ 0 ≤ r ∧ r < k := by
  obtain ⟨a, b, c, rfl, h1, h2⟩ := b
  by_cases h0 : 0 < a
  · exact ⟨_, _, take_big h W n h0 hk (by omega), ⟨_, _, _, rfl, h1, by omega⟩, Int.fmod_nonneg_of_pos _ hk, Int.fmod_lt_of_pos _ hk⟩
  · obtain ⟨r, hr, e⟩ := take_small h W n (b := b) h0 hk hd h1 (by omega)
    exact ⟨_, _, e, ⟨_, _, _, rfl, by omega, by omega⟩, Int.fmod_nonneg_of_pos _ hk, Int.fmod_lt_of_pos _ hk⟩
theorem of_spec {g : Nat} (h : F[t]? = some (fTake t)) (hg : F[g]? = some (fOf t)) (W n : Nat) {m : Nat} {xs : List D} {l : List OV} (b : Bx (m + 1) l) (hk : 0 < xs.length) (hd : xs.length ≤ 10 ^ 7) : ∃ (x : D) (l' : List OV), evF F W (n + 2) g [.ol l, .fz (.list xs)] = some (.fz x, [.ol l']) ∧ Bx m l' ∧ x ∈ xs := by
  obtain ⟨r, l', e, b', r1, r2⟩ := take_spec h W n b (k := xs.length) (by omega) (by omega)
  obtain ⟨i, rfl⟩ := Int.eq_ofNat_of_zero_le r1
  have hi : i < xs.length := by omega
  obtain ⟨x, hx⟩ : ∃ x, x = xs[i] := ⟨_, rfl⟩
  refine ⟨x, l', ?_, b', hx ▸ List.getElem_mem hi⟩
  have e1 : (0 : Int) ≤ (i : Int) := by omega
  have e2 : (i : Int) < (xs.length : Int) := by omega
  have e3 : xs[i]? = some x := hx ▸ List.getElem?_eq_getElem hi
  have e4 : ((i : Int)).toNat = i := rfl
  have e5 : idxD (.list xs) (.int i) = some x := by
    show b1 (ixN _ _) _ = _
    unfold ixN
    rw [if_pos e1, if_pos e2]
    exact e3
  have e6 : decide (0 ∉ ([] : List Nat)) = true := by decide
  rw [ev_call hg]
  clear h hg hk hd r1 r2 b b' e1 e2 e3 e4 hx
  unfold fOf
  walk_at "ev"
end
end PF

/-! PF: loops, and _law_same of a thing with itself. -/
namespace PF
open PySem
local macro_rules | `(tactic| walk_at "ev") => `(tactic| simp only [xRun, startE, List.map_cons, List.map_nil, List.length_cons, List.length_nil, Nat.zero_add, Nat.reduceAdd, Nat.reduceSub, decide_true, xg_true, List.cons_append, List.nil_append, List.append_nil, List.getElem?_cons_zero, List.getElem?_cons_succ, List.replicate, List.set_cons_zero, List.set_cons_succ, x1_some, xd_some, xi_int, xz_fz, xl_ol, xf_nx, xf_rt, xf_bk, xf_ct, q_par_n, q_par_t, q_par_f, xs_true, xs_false, xn_none, xn_int, xn_bool, xn_str, xn_list, xn_tuple, Int.cast_ofNat_Int, Int.reduceToNat, Int.reduceLE, Int.reduceLT, Int.reducePow, Int.reduceNeg, Int.reduceAdd, Int.reduceSub, Int.reduceMul, Int.reduceBEq, Int.reduceBNe, if_true, if_false, ↓reduceIte, Int.toNat_zero, e_xE_0, e_xE_1, e_xE_2, e_xE_3, e_xE_4, e_xE_5, e_xE_6, e_xE_7, e_xE_8, e_xE_9, e_xE_10, e_xE_11, e_xE_12, e_xE_13, e_xE_14, e_xE_15, e_xE_16, e_xE_17, e_xE_18, e_xE_19, e_xE_20, e_xE_21, e_xE_22, e_xE_23, e_xE_24, e_xO_0, e_xO_1, e_xEs_0, e_xEs_1, e_xA_0, e_xA_1, e_xA_2, e_xI_0, e_xI_1, e_xI_2, e_xI_3, e_xI_4, e_xS_0, e_xS_1, e_xS_2, e_xS_3, e_xS_4, e_xS_5, e_xS_6, e_xS_7, e_xS_8, e_xS_9, e_xS_10, e_xS_11, e_xS_12, e_xS_13, e_xS_14, e_xS_15, e_xS_16, e_xSs_0, e_xSs_1, q_add_int, q_add_list, q_sub_int, q_mul_int, q_fdiv_int, q_mod_int, q_pow7, q_pow18, q_pow20, q_tru_none, q_tru_bool, q_tru_int, q_tru_list, q_tru_tuple, q_cmp_lt, q_cmp_le, q_cmp_gt, q_cmp_ge, q_idx_list, q_idx_tuple, q_len_list, q_len_tuple, q_abs_int, q_int_int, q_int_bool, q_min_two, q_max_two, q_list_list, q_list_tuple, q_tuple_list, q_tuple_tuple, q_slc_list, q_slc_tuple, q_getF_0, q_getF_s, q_getL_0, q_getL_s, q_get_0, q_get_s, q_optI_n, q_optI_s, q_items_l, q_items_t, q_listD_l, q_zip_l, q_zip_t, q_d_fz, q_d_ol, q_d_ot, q_ds_n, q_ds_c, q_outs_n, q_ty_int_none, q_ty_int_bool, q_ty_int_int, q_ty_int_str, q_ty_int_list, q_ty_int_tuple, q_ty_bool_none, q_ty_bool_bool, q_ty_bool_int, q_ty_bool_str, q_ty_bool_list, q_ty_bool_tuple, q_ty_str_none, q_ty_str_bool, q_ty_str_int, q_ty_str_str, q_ty_str_list, q_ty_str_tuple, q_ty_list_none, q_ty_list_bool, q_ty_list_int, q_ty_list_str, q_ty_list_list, q_ty_list_tuple, q_ty_tuple_none, q_ty_tuple_bool, q_ty_tuple_int, q_ty_tuple_str, q_ty_tuple_list, q_ty_tuple_tuple, q_at, q_ix, q_gd, q_bd, q_b1, List.not_mem_nil, not_false_eq_true, List.any_cons, List.any_nil, Bool.or_true, Bool.true_or, Bool.or_false, Bool.false_or, Bool.not_true, Bool.not_false, Bool.and_true, Bool.true_and, Bool.and_false, Bool.false_and, Nat.reduceLT, Nat.reduceLeDiff, bne_self_eq_false, Int.toNat_natCast, q_bT_nm, q_bT_tp, q_bTs_n, q_bTs_c, q_res_n, q_res_l, q_res_r, q_slo_n, q_slo_l, q_slo_r, q_put_n, q_put_c, q_wip_n, q_wip_c, q_wiC_n, q_wiC_c, q_bkE_n, q_bkE_c, q_jn, q_prm_n, q_prm_c, q_fzs_n, q_fzs_c, q_alz_n, q_alz_c, q_alz_l, q_alz_t, q_mkT, q_mkT_s, q_mkT_n, q_out_n, q_out_c, q_end_r, q_end_n, xnd_none, xnd_bool, xnd_int, xnd_str, xnd_list, xnd_tuple, beq_self_eq_true, ds_fzs, Bool.false_eq_true, q_le_0, q_lt_0, q_le_1, q_lt_1, q_le_2, q_lt_2, q_le_3, q_lt_3, q_le_4, q_lt_4, q_le_5, q_lt_5, q_le_6, q_lt_6, q_le_7, q_lt_7, q_le_8, q_lt_8, q_le_9, q_lt_9, q_le_10, q_lt_10, q_le_11, q_lt_11, q_le_12, q_lt_12, e_xE_25, e_xE_26, e_xE_27, e_xE_28, e_xE_29, e_xE_30, e_xE_31, e_xE_32, e_xS_17, e_xS_18, e_xS_19, xb_bool, q_bT_tl, q_add_tup, q_add_str, q_frE_n, q_frE_0, q_frE_s, q_immO_f, q_immO_l, q_immO_t, q_immOs_n, q_immOs_c, q_immD_n, q_immD_b, q_immD_i, q_immD_s, q_immD_t, q_immDs_n, q_immDs_c, q_str_int, q_str_str, q_txt_int, q_txt_str, q_cat_n, q_cat_c, q_cst_s, q_cst_i, q_isb, xr_nx, xr_ct, xr_bk, xr_rt, q_lturn, q_l2turn, q_turn, q_wtest, q_lcX_n, q_lcX_c, q_lcY_n, q_lcY_c, q_lc2X_n, q_lc2X_c, q_lc2Y_n, q_lc2Y_c, q_forX_n, q_forX_c, q_eqb, q_neb, q_eqi, q_nei, q_eqn, List.isEmpty_cons, List.isEmpty_nil, decide_false, q_zip_lt, q_zip_tl, q_cst_t, q_ca_n, q_ca_i, q_ca_s, q_rev_l, q_rev_t, e_xE_33, *])
theorem evL_map {step : D → Env → Option (List OV × Env)} (P : Env → Prop) (f : D → OV) : ∀ (ds : List D), (∀ d ∈ ds, ∀ ρ, P ρ → ∃ ρ', P ρ' ∧ step d ρ = some ([f d], ρ')) → ∀ ρ, P ρ → ∃ ρ', P ρ' ∧ evL step ds ρ = some (ds.map f, ρ')
  | [], _, ρ, h => ⟨ρ, h, rfl⟩
  | d :: ds, hs, ρ, h => by
    obtain ⟨ρ1, h1, e1⟩ := hs d (List.mem_cons_self ..) ρ h
    obtain ⟨ρ2, h2, e2⟩ := evL_map P f ds (fun d hd => hs d (List.mem_cons_of_mem _ hd)) ρ1 h1
    refine ⟨ρ2, h2, ?_⟩
    show bd (step d ρ) _ = _
    rw [e1]
    show bd (evL step ds ρ1) _ = _
    rw [e2]
    rfl
theorem forL_inv {step : D → Env → Option Fl} (P : Nat → Env → Prop) : ∀ (ds : List D) (k : Nat), (∀ d ∈ ds, ∀ j ρ, P (j + 1) ρ → ∃ ρ', P j ρ' ∧ step d ρ = some (.nx ρ')) → ∀ ρ, P (k + ds.length) ρ → ∃ ρ', P k ρ' ∧ forL step ds ρ = some (.nx ρ')
  | [], k, _, ρ, h => ⟨ρ, h, rfl⟩
  | d :: ds, k, hs, ρ, h => by
    obtain ⟨ρ1, h1, e1⟩ := hs d (List.mem_cons_self ..) (k + ds.length) ρ (by rw [List.length_cons] at h; exact h)
    obtain ⟨ρ2, h2, e2⟩ := forL_inv P ds k (fun d hd => hs d (List.mem_cons_of_mem _ hd)) ρ1 h1
    refine ⟨ρ2, h2, ?_⟩
    show b1 (step d ρ) _ = _
    rw [e1]
    exact e2
abbrev oB (b : Bool) : OV := .fz (.bool b)
theorem bools_map {α : Type} (f : α → Bool) : ∀ xs : List α, boolsD (OV.ds (xs.map fun x => oB (f x))) = some (xs.map f)
  | [] => rfl
  | x :: xs => by
    show b1 (boolsD (OV.ds (xs.map fun x => oB (f x)))) _ = _
    rw [bools_map f xs]
    rfl
theorem all_map {α : Type} (f : α → Bool) (xs : List α) : bltD .all [.list (OV.ds (xs.map fun x => oB (f x)))] = some (oB (xs.all f)) := by
  show b1 (boolsD _) _ = _
  rw [bools_map f xs]
  show some (oB _) = _
  rw [List.all_map]
  rfl
theorem all_tt {α : Type} (xs : List α) : bltD .all [.list (OV.ds (xs.map fun _ => oB true))] = some (oB true) := by
  rw [all_map (fun _ => true)]
  rw [List.all_eq_true.mpr (fun _ _ => rfl)]
theorem zip_mem {xs : List D} {d : D} (h : d ∈ zipD xs xs) : ∃ x ∈ xs, d = .tuple [x, x] := by
  induction xs with
  | nil => cases h
  | cons x xs ih =>
    cases h with
    | head => exact ⟨x, List.mem_cons_self .., rfl⟩
    | tail _ h =>
      obtain ⟨y, hy, e⟩ := ih h
      exact ⟨y, List.mem_cons_of_mem _ hy, e⟩
theorem zip_len (xs : List D) : (zipD xs xs).length = xs.length := by
  unfold zipD
  rw [List.length_zipWith, Nat.min_self]
def okD : Nat → D → Bool
  | _, .none => true
  | _, .bool _ => true
  | _, .int _ => true
  | _, .str x => SeqAt.shaped (.str x)
  | n + 1, .list xs => decide (xs.length < SZ) && xs.all (okD n)
  | n + 1, .tuple xs => decide (xs.length < SZ) && xs.all (okD n)
  | _, _ => false
section
variable {F : List Fn} {t : Nat}
theorem same_refl (h : F[t]? = some (fSame t)) (W : Nat) : ∀ (n : Nat) (d : D) (k : Nat), okD n d = true → n ≤ k → evF F W (k + 1) t [.fz d, .fz d] = some (oB true, [])
  | n, d, k, ok, hk => by
    have q1 : cmpD .eq .none .none = some true := rfl
    rw [ev_call h]
    have hF := h
    unfold fSame
    have seq : ∀ (xs : List D) (m : Nat), n = m + 1 → xs.length < SZ → xs.all (okD m) = true → ∀ x ∈ xs, evF F W k t [.fz x, .fz x] = some (oB true, []) := by
      intro xs m e hl ha x hx
      obtain ⟨k', rfl⟩ : ∃ k', k = k' + 1 := ⟨k - 1, by omega⟩
      exact same_refl h W m x k' (List.all_eq_true.mp ha x hx) (by omega)
    clear h hF
    cases d with
    | none => clear seq; walk_at "ev"
    | bool b => clear seq; walk_at "ev"
    | int i => clear seq; walk_at "ev"
    | str x =>
      clear seq
      have e : cmpD .eq (.str x) (.str x) = some true := by
        have e1 : PyData.eqv (.str x) (.str x) = true := SeqAt.eqv_refl _ (SeqAt.canLay_of_shaped (by cases n <;> exact ok))
        have e2 : SeqAt.shaped (.str x) = true := by cases n <;> exact ok
        show gd (SeqAt.shaped (.str x) && SeqAt.shaped (.str x)) (some (PyData.eqv (.str x) (.str x))) = _
        rw [e1, e2]; rfl
      clear ok
      walk_at "ev"
    | dict x => cases n <;> cases ok
    | list xs =>
      cases n with
      | zero => cases ok
      | succ m =>
        have ok2 := Bool.and_eq_true_iff.mp ok
        have call := seq xs m rfl (of_decide_eq_true ok2.1) ok2.2
        have ha := all_tt (zipD xs xs)
        replace ok2 := ok2.1
        clear seq ok
        walk_at "ev"
        rw [lcY_map (fun _ => oB true) (by rw [zip_len]; exact of_decide_eq_true ok2) ?_]
        · clear call
          walk_at "ev"
        · intro d hd
          obtain ⟨x, hx, rfl⟩ := zip_mem hd
          have e := call x hx
          refine ⟨[some (.fz (.list xs)), some (.fz (.list xs)), some (.fz x), some (.fz x)], ?_, rfl⟩
          walk_at "ev"
    | tuple xs =>
      cases n with
      | zero => cases ok
      | succ m =>
        have ok2 := Bool.and_eq_true_iff.mp ok
        have call := seq xs m rfl (of_decide_eq_true ok2.1) ok2.2
        have ha := all_tt (zipD xs xs)
        replace ok2 := ok2.1
        clear seq ok
        walk_at "ev"
        rw [lcY_map (fun _ => oB true) (by rw [zip_len]; exact of_decide_eq_true ok2) ?_]
        · clear call
          walk_at "ev"
        · intro d hd
          obtain ⟨x, hx, rfl⟩ := zip_mem hd
          have e := call x hx
          refine ⟨[some (.fz (.tuple xs)), some (.fz (.tuple xs)), some (.fz x), some (.fz x)], ?_, rfl⟩
          walk_at "ev"
  termination_by n => n
end
end PF

/-! PF: cells and box. -/
namespace PF
open PySem
theorem ds_oI (xs : List Int) : OV.ds (xs.map oI) = xs.map .int := by
  induction xs with
  | nil => rfl
  | cons x xs ih => show _ :: OV.ds (xs.map oI) = _ :: _; rw [ih]; rfl
local macro_rules | `(tactic| walk_at "ev") => `(tactic| simp only [xRun, startE, List.map_cons, List.map_nil, List.length_cons, List.length_nil, Nat.zero_add, Nat.reduceAdd, Nat.reduceSub, decide_true, xg_true, List.cons_append, List.nil_append, List.append_nil, List.getElem?_cons_zero, List.getElem?_cons_succ, List.replicate, List.set_cons_zero, List.set_cons_succ, x1_some, xd_some, xi_int, xz_fz, xl_ol, xf_nx, xf_rt, xf_bk, xf_ct, q_par_n, q_par_t, q_par_f, xs_true, xs_false, xn_none, xn_int, xn_bool, xn_str, xn_list, xn_tuple, Int.cast_ofNat_Int, Int.reduceToNat, Int.reduceLE, Int.reduceLT, Int.reducePow, Int.reduceNeg, Int.reduceAdd, Int.reduceSub, Int.reduceMul, Int.reduceBEq, Int.reduceBNe, if_true, if_false, ↓reduceIte, Int.toNat_zero, e_xE_0, e_xE_1, e_xE_2, e_xE_3, e_xE_4, e_xE_5, e_xE_6, e_xE_7, e_xE_8, e_xE_9, e_xE_10, e_xE_11, e_xE_12, e_xE_13, e_xE_14, e_xE_15, e_xE_16, e_xE_17, e_xE_18, e_xE_19, e_xE_20, e_xE_21, e_xE_22, e_xE_23, e_xE_24, e_xO_0, e_xO_1, e_xEs_0, e_xEs_1, e_xA_0, e_xA_1, e_xA_2, e_xI_0, e_xI_1, e_xI_2, e_xI_3, e_xI_4, e_xS_0, e_xS_1, e_xS_2, e_xS_3, e_xS_4, e_xS_5, e_xS_6, e_xS_7, e_xS_8, e_xS_9, e_xS_10, e_xS_11, e_xS_12, e_xS_13, e_xS_14, e_xS_15, e_xS_16, e_xSs_0, e_xSs_1, q_add_int, q_add_list, q_sub_int, q_mul_int, q_fdiv_int, q_mod_int, q_pow7, q_pow18, q_pow20, q_tru_none, q_tru_bool, q_tru_int, q_tru_list, q_tru_tuple, q_cmp_lt, q_cmp_le, q_cmp_gt, q_cmp_ge, q_idx_list, q_idx_tuple, q_len_list, q_len_tuple, q_abs_int, q_int_int, q_int_bool, q_min_two, q_max_two, q_list_list, q_list_tuple, q_tuple_list, q_tuple_tuple, q_slc_list, q_slc_tuple, q_getF_0, q_getF_s, q_getL_0, q_getL_s, q_get_0, q_get_s, q_optI_n, q_optI_s, q_items_l, q_items_t, q_listD_l, q_zip_l, q_zip_t, q_d_fz, q_d_ol, q_d_ot, q_ds_n, q_ds_c, q_outs_n, q_ty_int_none, q_ty_int_bool, q_ty_int_int, q_ty_int_str, q_ty_int_list, q_ty_int_tuple, q_ty_bool_none, q_ty_bool_bool, q_ty_bool_int, q_ty_bool_str, q_ty_bool_list, q_ty_bool_tuple, q_ty_str_none, q_ty_str_bool, q_ty_str_int, q_ty_str_str, q_ty_str_list, q_ty_str_tuple, q_ty_list_none, q_ty_list_bool, q_ty_list_int, q_ty_list_str, q_ty_list_list, q_ty_list_tuple, q_ty_tuple_none, q_ty_tuple_bool, q_ty_tuple_int, q_ty_tuple_str, q_ty_tuple_list, q_ty_tuple_tuple, q_at, q_ix, q_gd, q_bd, q_b1, List.not_mem_nil, not_false_eq_true, List.any_cons, List.any_nil, Bool.or_true, Bool.true_or, Bool.or_false, Bool.false_or, Bool.not_true, Bool.not_false, Bool.and_true, Bool.true_and, Bool.and_false, Bool.false_and, Nat.reduceLT, Nat.reduceLeDiff, bne_self_eq_false, Int.toNat_natCast, q_bT_nm, q_bT_tp, q_bTs_n, q_bTs_c, q_res_n, q_res_l, q_res_r, q_slo_n, q_slo_l, q_slo_r, q_put_n, q_put_c, q_wip_n, q_wip_c, q_wiC_n, q_wiC_c, q_bkE_n, q_bkE_c, q_jn, q_prm_n, q_prm_c, q_fzs_n, q_fzs_c, q_alz_n, q_alz_c, q_alz_l, q_alz_t, q_mkT, q_mkT_s, q_mkT_n, q_out_n, q_out_c, q_end_r, q_end_n, xnd_none, xnd_bool, xnd_int, xnd_str, xnd_list, xnd_tuple, beq_self_eq_true, ds_fzs, Bool.false_eq_true, q_le_0, q_lt_0, q_le_1, q_lt_1, q_le_2, q_lt_2, q_le_3, q_lt_3, q_le_4, q_lt_4, q_le_5, q_lt_5, q_le_6, q_lt_6, q_le_7, q_lt_7, q_le_8, q_lt_8, q_le_9, q_lt_9, q_le_10, q_lt_10, q_le_11, q_lt_11, q_le_12, q_lt_12, e_xE_25, e_xE_26, e_xE_27, e_xE_28, e_xE_29, e_xE_30, e_xE_31, e_xE_32, e_xS_17, e_xS_18, e_xS_19, xb_bool, q_bT_tl, q_add_tup, q_add_str, q_frE_n, q_frE_0, q_frE_s, q_immO_f, q_immO_l, q_immO_t, q_immOs_n, q_immOs_c, q_immD_n, q_immD_b, q_immD_i, q_immD_s, q_immD_t, q_immDs_n, q_immDs_c, q_str_int, q_str_str, q_txt_int, q_txt_str, q_cat_n, q_cat_c, q_cst_s, q_cst_i, q_isb, xr_nx, xr_ct, xr_bk, xr_rt, q_lturn, q_l2turn, q_turn, q_wtest, q_lcX_n, q_lcX_c, q_lcY_n, q_lcY_c, q_lc2X_n, q_lc2X_c, q_lc2Y_n, q_lc2Y_c, q_forX_n, q_forX_c, q_eqb, q_neb, q_eqi, q_nei, q_eqn, List.isEmpty_cons, List.isEmpty_nil, decide_false, q_zip_lt, q_zip_tl, q_cst_t, q_ca_n, q_ca_i, q_ca_s, q_rev_l, q_rev_t, e_xE_33, ds_oI, *])
theorem enum_mem {L : List Int} {d : D} : ∀ {a : Nat}, d ∈ enumD a (L.map .int) → ∃ (j : Nat) (v : Int), d = .tuple [.int (j : Nat), .int v] ∧ j < a + L.length := by
  induction L with
  | nil => intro a h; cases h
  | cons x xs ih =>
    intro a h
    cases h with
    | head => exact ⟨a, x, rfl, by rw [List.length_cons]; omega⟩
    | tail _ h =>
      obtain ⟨j, v, e, hl⟩ := ih h
      exact ⟨j, v, e, by rw [List.length_cons]; omega⟩
theorem cut_map {α β : Type} (f : α → β) (xs : List α) (lo hi : Option Int) : cutD (xs.map f) lo hi = (cutD xs lo hi).map f := by
  unfold cutD
  rw [List.length_map, List.map_take, List.map_drop]
theorem at_nat {α : Type} {xs : List α} {i : Nat} {x : α} (h : xs[i]? = some x) : atD xs (i : Int) = some x := by
  have hi : i < xs.length := (List.getElem?_eq_some_iff.mp h).1
  unfold atD ixN
  rw [if_pos (by omega), if_pos (by omega)]
  exact h
theorem ix_nat {n i : Nat} (h : i < n) : ixN n (i : Int) = some i := by
  unfold ixN
  rw [if_pos (by omega), if_pos (by omega)]
  rfl
section
variable {F : List Fn} {g : Nat}
theorem cells_spec (h : F[g]? = some fCells) (W n : Nat) (k : Nat) (hk : 0 < k) (ns : List Int) : ∃ xs : List Int, 0 < xs.length ∧ xs.length ≤ k ∧ evF F W (n + 1) g [.fz (.list (ns.map .int)), oI k] = some (.ol (xs.map oI), []) := by
  rw [ev_call h]
  unfold fCells
  clear h
  cases ns with
  | nil =>
    refine ⟨[0], by decide, hk, ?_⟩
    have e1 : cutD ([] : List D) none (some (k : Int)) = [] := by unfold cutD; rw [List.drop_nil, List.take_nil]
    have e2 : cutD ([] : List D) (some (k : Int)) (some 63) = [] := by unfold cutD; rw [List.drop_nil, List.take_nil]
    have e3 : enumD 0 [] = [] := rfl
    have e4 : decide (0 + 1 ≤ SZ) = true := by decide
    have e5 : decide (1 ≤ SZ) = true := by decide
    have e6 : (List.isEmpty ([] : List D)) = true := rfl
    clear hk
    walk_at "ev"
  | cons z zs =>
    generalize hns : z :: zs = ns
    have hpos : 0 < ns.length := by rw [← hns]; exact Nat.succ_pos _
    clear hns z zs
    have c1 : cutD ns none (some (k : Int)) = ns.take k := by
      unfold cutD
      rw [HT.sIx_nat, HT.sIx_none, List.drop_zero, Nat.sub_zero]
      rw [List.take_eq_take_iff]
      omega
    have c2 : cutD ns (some (k : Int)) (some 63) = (ns.drop (min k ns.length)).take (min 63 ns.length - min k ns.length) := by
      unfold cutD
      rw [HT.sIx_nat, show (some (63 : Int)) = some ((63 : Nat) : Int) from rfl, HT.sIx_nat]
    generalize hL : cutD ns (some (k : Int)) (some 63) = L at c2
    have hlen : 0 < L.length → k ≤ ns.length := by
      intro h
      rw [c2, List.length_take, List.length_drop] at h
      omega
    have hL63 : L.length ≤ 63 := by
      rw [c2, List.length_take, List.length_drop]
      omega
    have e1 : cutD (ns.map PyData.int) none (some (k : Int)) = (ns.take k).map PyData.int := by rw [cut_map, c1]
    have e2 : cutD (ns.map PyData.int) (some (k : Int)) (some 63) = L.map PyData.int := by rw [cut_map, hL]
    obtain ⟨ys, hys⟩ : ∃ ys, ys = ns.take k := ⟨_, rfl⟩
    have yl : ys.length = min k ns.length := by rw [hys, List.length_take]
    rw [← hys] at e1
    have e6 : (List.isEmpty (ys.map PyData.int)) = false := by
      cases ys with
      | nil => rw [List.length_nil] at yl; omega
      | cons y ys => rfl
    have e7 : fzs (ys.map PyData.int) = ys.map oI := by unfold fzs; rw [List.map_map]; rfl
    clear c1 c2 hL hys
    have key : ∀ (step : D → Env → Option Fl) , (∀ (j : Nat) (v : Int) (ys : List Int) (o3 o4 : Option OV), j < 63 → ys.length = k → ∃ w : Int, ∃ o3' o4', step (.tuple [.int (j : Nat), .int v]) [some (.fz (.list (ns.map .int))), some (oI k), some (.ol (ys.map oI)), o3, o4] = some (.nx [some (.fz (.list (ns.map .int))), some (oI k), some (.ol ((ys.set (j % k) w).map oI)), o3', o4'])) → ∃ xs : List Int, ∃ o3' o4', xs.length = ys.length ∧ forL step (enumD 0 (L.map .int)) [some (.fz (.list (ns.map .int))), some (oI k), some (.ol (ys.map oI)), none, none] = some (.nx [some (.fz (.list (ns.map .int))), some (oI k), some (.ol (xs.map oI)), o3', o4']) := by
      intro step hs
      by_cases hL0 : 0 < L.length
      · have yk : ys.length = k := by have := hlen hL0; omega
        obtain ⟨ρ', ⟨xs, o3, o4, hx, rfl⟩, e⟩ := forL_inv (step := step) (fun _ ρ => ∃ (xs : List Int) (o3 o4 : Option OV), xs.length = k ∧ ρ = [some (.fz (.list (ns.map .int))), some (oI k), some (.ol (xs.map oI)), o3, o4]) (enumD 0 (L.map .int)) 0 (by
          rintro d hd j ρ ⟨xs, o3, o4, hx, rfl⟩
          obtain ⟨i, v, rfl, hi⟩ := enum_mem hd
          obtain ⟨w, o3', o4', e⟩ := hs i v xs o3 o4 (by omega) hx
          exact ⟨_, ⟨_, _, _, by rw [List.length_set]; exact hx, rfl⟩, e⟩) _ ⟨ys, none, none, yk, rfl⟩
        exact ⟨xs, o3, o4, by omega, e⟩
      · have : L = [] := by cases L with
          | nil => rfl
          | cons a b => exact absurd (Nat.succ_pos _) hL0
        subst this
        exact ⟨ys, none, none, rfl, rfl⟩
    clear hlen hL63
    walk_at "ev"
    generalize hS : forX _ _ _ _ _ = Z
    have h2 : ∃ xs : List Int, ∃ o3' o4', xs.length = ys.length ∧ Z = some (.nx [some (.fz (.list (ns.map .int))), some (oI k), some (.ol (xs.map oI)), o3', o4']) := by
      rw [← hS]
      refine key (fun d ρ => turn _ _ _ d ρ) ?_
      clear key hS e1 e2 e6 e7 yl ys
      intro j v ys o3 o4 hj hl
      have hr : Int.fmod (j : Int) (k : Int) = ((j % k : Nat) : Int) := by
        rw [Int.fmod_eq_emod_of_nonneg _ (by omega)]
        rfl
      have hi : j % k < ys.length := by rw [hl]; exact Nat.mod_lt _ hk
      obtain ⟨y, hy⟩ : ∃ y, ys[j % k]? = some y := ⟨_, List.getElem?_eq_getElem hi⟩
      have a1 : atD (ys.map oI) ((j % k : Nat) : Int) = some (oI y) := at_nat (by rw [List.getElem?_map, hy]; rfl)
      have a2 : ixN (ys.map oI).length ((j % k : Nat) : Int) = some (j % k) := ix_nat (by rw [List.length_map]; exact hi)
      have a3 : mulOk v ((j : Int) + 2) = true := mulOk_r (by omega) (by omega)
      have a4 : decide ((k : Int) ≠ 0) = true := decide_eq_true (by omega)
      have a5 : (ys.map oI).set (j % k) (oI (y + v * ((j : Int) + 2))) = (ys.set (j % k) (y + v * ((j : Int) + 2))).map oI := (List.map_set ..).symm
      refine ⟨y + v * ((j : Int) + 2), some (oI j), some (oI v), ?_⟩
      clear hy hi hl hj hk hpos
      walk_at "ev"
    obtain ⟨xs, o3, o4, hx, rfl⟩ := h2
    clear hS key
    refine ⟨xs, by omega, by omega, ?_⟩
    clear hx yl hpos hk
    walk_at "ev"
theorem box_spec (h : F[g]? = some fBox) (W n : Nat) (xs : List Int) (i : Nat) (hi : i < xs.length) : ∃ l, evF F W (n + 1) g [.fz (.list (xs.map .int)), oI i] = some (.ol l, []) ∧ ∀ m : Nat, m < 2 ^ 62 → Bx m l := by
  obtain ⟨v, hv⟩ : ∃ v, xs[i]? = some v := ⟨_, List.getElem?_eq_getElem hi⟩
  have a1 : atD (xs.map PyData.int) (i : Int) = some (.int v) := at_nat (by rw [List.getElem?_map, hv]; rfl)
  have a2 : decide ((i : Int) < ((xs.map PyData.int).length : Int)) = true := decide_eq_true (by rw [List.length_map]; omega)
  have a3 : ∀ (x : Int) (b : Bool), mulOk x (if b = true then 1 else 0) = true := fun x b => by cases b <;> exact mulOk_r (by decide) (by decide)
  have a4 : mulOk 39373 (i : Int) = true := mulOk_l (by decide) (by decide)
  have a5 : decide ((2305843009213693951 : Int) ≠ 0) = true := by decide
  have a6 : decide (3 ≤ SZ) = true := by decide
  have : ∃ a b : Int, evF F W (n + 1) g [.fz (.list (xs.map .int)), oI i] = some (.ol [oI a, oI b, oI 0], []) := by
    rw [ev_call h]
    unfold fBox
    clear h hv hi
    refine ⟨?a, ?b, ?c⟩
    case c =>
      walk_at "ev"
      rfl
  obtain ⟨a, b, e⟩ := this
  exact ⟨_, e, fun m hm => ⟨a, b, 0, rfl, by decide, by omega⟩⟩
end
end PF

/-! PF: tools for the laws' mathematics. -/
namespace PF
open PySem
def oi : Option Int → D
  | none => .none
  | some i => .int i
theorem oi_n : oi none = .none := of_eq_true (eq_self _)
theorem oi_s (i : Int) : oi (some i) = .int i := of_eq_true (eq_self _)
theorem xn_oi {γ : Type} (o : Option Int) (x y : Option γ) (t : Tg x) (u : Tg y) : xn (oi o) x y t u = xs o.isNone x y t u := by cases o <;> rfl
theorem range_mem0 {d : D} {n : Nat} (h : d ∈ rangeD 0 n) : ∃ i : Nat, d = .int (i : Nat) ∧ i < n := by
  unfold rangeD at h
  obtain ⟨i, hi, rfl⟩ := List.mem_map.mp h
  exact ⟨i, by rw [Int.zero_add], List.mem_range.mp hi⟩
theorem range_mem {d : D} {lo : Int} {n : Nat} (h : d ∈ rangeD lo n) : ∃ x : Int, d = .int x ∧ lo ≤ x ∧ x < lo + n := by
  unfold rangeD at h
  obtain ⟨i, hi, rfl⟩ := List.mem_map.mp h
  have := List.mem_range.mp hi
  exact ⟨_, rfl, by omega, by omega⟩
theorem range_len (lo : Int) (n : Nat) : (rangeD lo n).length = n := by unfold rangeD; rw [List.length_map, List.length_range]
theorem step_of {P Q : Env → Prop} {o : Option Fl} (h : ∃ ρ', Q ρ' ∧ o = some (.nx ρ')) (hp : ∀ ρ, Q ρ → P ρ) : ∃ ρ', P ρ' ∧ o = some (.nx ρ') := by
  obtain ⟨ρ', hq, e⟩ := h
  exact ⟨ρ', hp _ hq, e⟩
/-- all(..) of a comprehension whose turns are all true, each with its own budget of the box -/
theorem lcX_all {C : Ctx} {own : List Nat} {tg : T} {cnd elt : E} (P : Nat → Env → Prop) : ∀ (ds : List D) (k : Nat), (∀ d ∈ ds, ∀ j ρ, P (j + 1) ρ → ∃ ρ', P j ρ' ∧ lturn C own tg cnd elt d ρ = some ([oB true], ρ')) → ∀ ρ, P (k + ds.length) ρ → ∃ ρ', P k ρ' ∧ lcX C own tg cnd elt ds ρ = some (ds.map fun _ => oB true, ρ')
  | [], k, _, ρ, h => ⟨ρ, h, rfl⟩
  | d :: ds, k, hs, ρ, h => by
    obtain ⟨ρ1, h1, e1⟩ := hs d List.mem_cons_self (k + ds.length) ρ (by rw [List.length_cons] at h; exact h)
    obtain ⟨ρ2, h2, e2⟩ := lcX_all P ds k (fun d hd => hs d (List.mem_cons_of_mem _ hd)) ρ1 h1
    refine ⟨ρ2, h2, ?_⟩
    rw [q_lcX_c, e1, xd_some, e2]
    rfl
theorem log_lt {i : Int} (h : -(10 ^ 60) < i) (h2 : i < 10 ^ 60) : decide (i.natAbs.log2 < 1920) = true := by
  apply decide_eq_true
  by_cases h0 : i.natAbs = 0
  · rw [h0]; decide
  · have h3 : i.natAbs.log2 < 200 := by
      rw [Nat.log2_lt h0]
      have : i.natAbs < 10 ^ 60 := by omega
      exact Nat.lt_of_lt_of_le this (by decide)
    omega
theorem strI_len {i : Int} (h : -(10 ^ 60) < i) (h2 : i < 10 ^ 60) : (strI i).length ≤ 61 := by
  have e := int_text_length_le10 (a := i) (k := 60) (by decide) (by omega)
  unfold strI
  rw [ofString_length]
  exact e
theorem strOk_of (s : String) : PyData.strOk (Str.ofString s) = true := by
  unfold PyData.strOk
  rw [Str.ofString_eq_toList, Array.all_eq_true']
  intro c hc
  have hc : c ∈ s.toList.map Char.toNat := by simpa using hc
  obtain ⟨x, _, rfl⟩ := List.mem_map.mp hc
  apply decide_eq_true
  have hv := x.valid
  show x.val.toNat < 0x110000
  rcases hv with h | h
  · have : x.val.toNat < 0xd800 := h
    omega
  · exact h.2
theorem strOk_app {a b : Str} (ha : PyData.strOk a = true) (hb : PyData.strOk b = true) : PyData.strOk (a ++ b) = true := by
  unfold PyData.strOk at *
  show (a.cps ++ b.cps).all _ = true
  rw [Array.all_append, ha, hb]
  rfl
theorem shaped_str {x : Str} (h : PyData.strOk x = true) : SeqAt.shaped (.str x) = true := by
  unfold SeqAt.shaped
  rw [Bool.and_eq_true_iff]
  exact ⟨h, rfl⟩
theorem szS {x : Str} (h : x.length ≤ 1000) : decide (x.length ≤ SZ) = true := decide_eq_true (by unfold SZ; omega)
theorem szS2 {x y : Str} (h : x.length + y.length ≤ 1000) : decide (x.length + y.length ≤ SZ) = true := decide_eq_true (by unfold SZ; omega)
local macro_rules | `(tactic| walk_at "ev") => `(tactic| simp only [xRun, startE, List.map_cons, List.map_nil, List.length_cons, List.length_nil, Nat.zero_add, Nat.reduceAdd, Nat.reduceSub, decide_true, xg_true, List.cons_append, List.nil_append, List.append_nil, List.getElem?_cons_zero, List.getElem?_cons_succ, List.replicate, List.set_cons_zero, List.set_cons_succ, x1_some, xd_some, xi_int, xz_fz, xl_ol, xf_nx, xf_rt, xf_bk, xf_ct, q_par_n, q_par_t, q_par_f, xs_true, xs_false, xn_none, xn_int, xn_bool, xn_str, xn_list, xn_tuple, Int.cast_ofNat_Int, Int.reduceToNat, Int.reduceLE, Int.reduceLT, Int.reducePow, Int.reduceNeg, Int.reduceAdd, Int.reduceSub, Int.reduceMul, Int.reduceBEq, Int.reduceBNe, if_true, if_false, ↓reduceIte, Int.toNat_zero, e_xE_0, e_xE_1, e_xE_2, e_xE_3, e_xE_4, e_xE_5, e_xE_6, e_xE_7, e_xE_8, e_xE_9, e_xE_10, e_xE_11, e_xE_12, e_xE_13, e_xE_14, e_xE_15, e_xE_16, e_xE_17, e_xE_18, e_xE_19, e_xE_20, e_xE_21, e_xE_22, e_xE_23, e_xE_24, e_xO_0, e_xO_1, e_xEs_0, e_xEs_1, e_xA_0, e_xA_1, e_xA_2, e_xI_0, e_xI_1, e_xI_2, e_xI_3, e_xI_4, e_xS_0, e_xS_1, e_xS_2, e_xS_3, e_xS_4, e_xS_5, e_xS_6, e_xS_7, e_xS_8, e_xS_9, e_xS_10, e_xS_11, e_xS_12, e_xS_13, e_xS_14, e_xS_15, e_xS_16, e_xSs_0, e_xSs_1, q_add_int, q_add_list, q_sub_int, q_mul_int, q_fdiv_int, q_mod_int, q_pow7, q_pow18, q_pow20, q_tru_none, q_tru_bool, q_tru_int, q_tru_list, q_tru_tuple, q_cmp_lt, q_cmp_le, q_cmp_gt, q_cmp_ge, q_idx_list, q_idx_tuple, q_len_list, q_len_tuple, q_abs_int, q_int_int, q_int_bool, q_min_two, q_max_two, q_list_list, q_list_tuple, q_tuple_list, q_tuple_tuple, q_slc_list, q_slc_tuple, q_getF_0, q_getF_s, q_getL_0, q_getL_s, q_get_0, q_get_s, q_optI_n, q_optI_s, q_items_l, q_items_t, q_listD_l, q_zip_l, q_zip_t, q_d_fz, q_d_ol, q_d_ot, q_ds_n, q_ds_c, q_outs_n, q_ty_int_none, q_ty_int_bool, q_ty_int_int, q_ty_int_str, q_ty_int_list, q_ty_int_tuple, q_ty_bool_none, q_ty_bool_bool, q_ty_bool_int, q_ty_bool_str, q_ty_bool_list, q_ty_bool_tuple, q_ty_str_none, q_ty_str_bool, q_ty_str_int, q_ty_str_str, q_ty_str_list, q_ty_str_tuple, q_ty_list_none, q_ty_list_bool, q_ty_list_int, q_ty_list_str, q_ty_list_list, q_ty_list_tuple, q_ty_tuple_none, q_ty_tuple_bool, q_ty_tuple_int, q_ty_tuple_str, q_ty_tuple_list, q_ty_tuple_tuple, q_at, q_ix, q_gd, q_bd, q_b1, List.not_mem_nil, not_false_eq_true, List.any_cons, List.any_nil, Bool.or_true, Bool.true_or, Bool.or_false, Bool.false_or, Bool.not_true, Bool.not_false, Bool.and_true, Bool.true_and, Bool.and_false, Bool.false_and, Nat.reduceLT, Nat.reduceLeDiff, bne_self_eq_false, Int.toNat_natCast, q_bT_nm, q_bT_tp, q_bTs_n, q_bTs_c, q_res_n, q_res_l, q_res_r, q_slo_n, q_slo_l, q_slo_r, q_put_n, q_put_c, q_wip_n, q_wip_c, q_wiC_n, q_wiC_c, q_bkE_n, q_bkE_c, q_jn, q_prm_n, q_prm_c, q_fzs_n, q_fzs_c, q_alz_n, q_alz_c, q_alz_l, q_alz_t, q_mkT, q_mkT_s, q_mkT_n, q_out_n, q_out_c, q_end_r, q_end_n, xnd_none, xnd_bool, xnd_int, xnd_str, xnd_list, xnd_tuple, beq_self_eq_true, ds_fzs, Bool.false_eq_true, q_le_0, q_lt_0, q_le_1, q_lt_1, q_le_2, q_lt_2, q_le_3, q_lt_3, q_le_4, q_lt_4, q_le_5, q_lt_5, q_le_6, q_lt_6, q_le_7, q_lt_7, q_le_8, q_lt_8, q_le_9, q_lt_9, q_le_10, q_lt_10, q_le_11, q_lt_11, q_le_12, q_lt_12, e_xE_25, e_xE_26, e_xE_27, e_xE_28, e_xE_29, e_xE_30, e_xE_31, e_xE_32, e_xS_17, e_xS_18, e_xS_19, xb_bool, q_bT_tl, q_add_tup, q_add_str, q_frE_n, q_frE_0, q_frE_s, q_immO_f, q_immO_l, q_immO_t, q_immOs_n, q_immOs_c, q_immD_n, q_immD_b, q_immD_i, q_immD_s, q_immD_t, q_immDs_n, q_immDs_c, q_str_int, q_str_str, q_txt_int, q_txt_str, q_cat_n, q_cat_c, q_cst_s, q_cst_i, q_isb, xr_nx, xr_ct, xr_bk, xr_rt, q_lturn, q_l2turn, q_turn, q_wtest, q_lcX_n, q_lcX_c, q_lcY_n, q_lcY_c, q_lc2X_n, q_lc2X_c, q_lc2Y_n, q_lc2Y_c, q_forX_n, q_forX_c, q_eqb, q_neb, q_eqi, q_nei, q_eqn, List.isEmpty_cons, List.isEmpty_nil, decide_false, q_zip_lt, q_zip_tl, q_cst_t, q_ca_n, q_ca_i, q_ca_s, q_rev_l, q_rev_t, e_xE_33, *])
def tkB : Nat → Int
  | 0 => 10000000
  | j + 1 => tkB j * 10000000
section
variable {F : List Fn} {t : Nat}
/-- take of a number of any size -/
theorem take_wide (h : F[t]? = some (fTake t)) (W : Nat) (j : Nat) : ∀ (n m : Nat) (k : Int) (l : List OV), Bx (m + j + 1) l → 0 < k → k ≤ tkB j → k < 18446744073709551616 → ∃ (r : Int) (l' : List OV), evF F W (n + j + 1) t [.ol l, oI k] = some (oI r, [.ol l']) ∧ Bx m l' ∧ 0 ≤ r ∧ r < k := by
  induction j with
  | zero =>
    intro n m k l b hk hd _
    obtain ⟨r, l', e, b', h1, h2⟩ := take_spec h W n (m := m) b hk hd
    exact ⟨r, l', e, b', h1, h2⟩
  | succ j ih =>
    intro n m k l b hk hd hz
    by_cases hs : k ≤ 10000000
    · obtain ⟨r, l', e, b', h1, h2⟩ := take_spec h W (n + j + 1) (m := m) (b.mono (by omega)) hk hs
      exact ⟨r, l', e, b', h1, h2⟩
    · obtain ⟨a, bb, c, rfl, h1, h2⟩ := b
      by_cases h0 : 0 < a
      · exact ⟨_, _, take_big h W (n + j + 1) h0 hk hz, ⟨_, _, _, rfl, h1, by omega⟩, Int.fmod_nonneg_of_pos _ hk, Int.fmod_lt_of_pos _ hk⟩
      · obtain ⟨r1, l1, e1, b1, p1, q1⟩ := take_spec h W (n + j) (m := m + j + 1) (k := 10000000) (l := [oI a, oI bb, oI c]) ⟨a, bb, c, rfl, h1, by omega⟩ (by decide) (Int.le_refl _)
        have hd : k ≤ tkB j * 10000000 := hd
        obtain ⟨k2, ek⟩ : ∃ k2, k2 = (k - 1).fdiv 10000000 + 1 := ⟨_, rfl⟩
        have hk2 : 0 < k2 ∧ k2 ≤ tkB j ∧ k2 < 18446744073709551616 := by
          rw [ek, Int.fdiv_eq_ediv_of_nonneg _ (by decide)]
          omega
        obtain ⟨r2, l2, e2, b2, p2, q2⟩ := ih n m k2 l1 b1 hk2.1 hk2.2.1 hk2.2.2
        refine ⟨(r1 + 10000000 * r2).fmod k, l2, ?_, b2, Int.fmod_nonneg_of_pos _ hk, Int.fmod_lt_of_pos _ hk⟩
        rw [ek] at e2
        have c1 : decide (0 < a) = false := decide_eq_false h0
        have c2 : decide (10000000 < k) = true := decide_eq_true (by omega)
        have c3 : decide (k ≠ 0) = true := decide_eq_true (by omega)
        have c4 : divOk 10000000 = true := by decide
        have c5 : mulOk 10000000 r2 = true := mulOk_l (by decide) (by decide)
        rw [show n + (j + 1) + 1 = (n + j + 1) + 1 from rfl, ev_call h]
        clear h h0 hk hd hz hs h1 h2 b1 b2 hk2 p1 q1 p2 q2 ih ek
        unfold fTake
        walk_at "ev"
end
/-- the laws' own end: for each cell a box, so many turns of it -/
def fLawA (c b r K N : Nat) : Fn := ⟨1, 5, [], (.cons (.asg true (.nm 1) (.call c (.ev (.v 0) (.ev (.c (.int K)) .nil)))) (.cons (.for_ (.nm 2) (.rng1 (.blt .len (.cons (.v 1) .nil))) (.cons (.asg false (.nm 3) (.call b (.ev (.v 1) (.ev (.v 2) .nil)))) (.cons (.iff (.nt (.blt .all (.cons (.lc [4] (.nm 4) (.rng1 (.c (.int N))) (.c (.bool true)) (.call r (.io 3 .nil))) .nil))) (.cons (.ret (.c (.bool false))) .nil) .nil) .nil))) (.cons (.ret (.c (.bool true))) .nil)))⟩
local macro_rules | `(tactic| walk_at "ev") => `(tactic| simp only [xRun, startE, List.map_cons, List.map_nil, List.length_cons, List.length_nil, Nat.zero_add, Nat.reduceAdd, Nat.reduceSub, decide_true, xg_true, List.cons_append, List.nil_append, List.append_nil, List.getElem?_cons_zero, List.getElem?_cons_succ, List.replicate, List.set_cons_zero, List.set_cons_succ, x1_some, xd_some, xi_int, xz_fz, xl_ol, xf_nx, xf_rt, xf_bk, xf_ct, q_par_n, q_par_t, q_par_f, xs_true, xs_false, xn_none, xn_int, xn_bool, xn_str, xn_list, xn_tuple, Int.cast_ofNat_Int, Int.reduceToNat, Int.reduceLE, Int.reduceLT, Int.reducePow, Int.reduceNeg, Int.reduceAdd, Int.reduceSub, Int.reduceMul, Int.reduceBEq, Int.reduceBNe, if_true, if_false, ↓reduceIte, Int.toNat_zero, e_xE_0, e_xE_1, e_xE_2, e_xE_3, e_xE_4, e_xE_5, e_xE_6, e_xE_7, e_xE_8, e_xE_9, e_xE_10, e_xE_11, e_xE_12, e_xE_13, e_xE_14, e_xE_15, e_xE_16, e_xE_17, e_xE_18, e_xE_19, e_xE_20, e_xE_21, e_xE_22, e_xE_23, e_xE_24, e_xO_0, e_xO_1, e_xEs_0, e_xEs_1, e_xA_0, e_xA_1, e_xA_2, e_xI_0, e_xI_1, e_xI_2, e_xI_3, e_xI_4, e_xS_0, e_xS_1, e_xS_2, e_xS_3, e_xS_4, e_xS_5, e_xS_6, e_xS_7, e_xS_8, e_xS_9, e_xS_10, e_xS_11, e_xS_12, e_xS_13, e_xS_14, e_xS_15, e_xS_16, e_xSs_0, e_xSs_1, q_add_int, q_add_list, q_sub_int, q_mul_int, q_fdiv_int, q_mod_int, q_pow7, q_pow18, q_pow20, q_tru_none, q_tru_bool, q_tru_int, q_tru_list, q_tru_tuple, q_cmp_lt, q_cmp_le, q_cmp_gt, q_cmp_ge, q_idx_list, q_idx_tuple, q_len_list, q_len_tuple, q_abs_int, q_int_int, q_int_bool, q_min_two, q_max_two, q_list_list, q_list_tuple, q_tuple_list, q_tuple_tuple, q_slc_list, q_slc_tuple, q_getF_0, q_getF_s, q_getL_0, q_getL_s, q_get_0, q_get_s, q_optI_n, q_optI_s, q_items_l, q_items_t, q_listD_l, q_zip_l, q_zip_t, q_d_fz, q_d_ol, q_d_ot, q_ds_n, q_ds_c, q_outs_n, q_ty_int_none, q_ty_int_bool, q_ty_int_int, q_ty_int_str, q_ty_int_list, q_ty_int_tuple, q_ty_bool_none, q_ty_bool_bool, q_ty_bool_int, q_ty_bool_str, q_ty_bool_list, q_ty_bool_tuple, q_ty_str_none, q_ty_str_bool, q_ty_str_int, q_ty_str_str, q_ty_str_list, q_ty_str_tuple, q_ty_list_none, q_ty_list_bool, q_ty_list_int, q_ty_list_str, q_ty_list_list, q_ty_list_tuple, q_ty_tuple_none, q_ty_tuple_bool, q_ty_tuple_int, q_ty_tuple_str, q_ty_tuple_list, q_ty_tuple_tuple, q_at, q_ix, q_gd, q_bd, q_b1, List.not_mem_nil, not_false_eq_true, List.any_cons, List.any_nil, Bool.or_true, Bool.true_or, Bool.or_false, Bool.false_or, Bool.not_true, Bool.not_false, Bool.and_true, Bool.true_and, Bool.and_false, Bool.false_and, Nat.reduceLT, Nat.reduceLeDiff, bne_self_eq_false, Int.toNat_natCast, q_bT_nm, q_bT_tp, q_bTs_n, q_bTs_c, q_res_n, q_res_l, q_res_r, q_slo_n, q_slo_l, q_slo_r, q_put_n, q_put_c, q_wip_n, q_wip_c, q_wiC_n, q_wiC_c, q_bkE_n, q_bkE_c, q_jn, q_prm_n, q_prm_c, q_fzs_n, q_fzs_c, q_alz_n, q_alz_c, q_alz_l, q_alz_t, q_mkT, q_mkT_s, q_mkT_n, q_out_n, q_out_c, q_end_r, q_end_n, xnd_none, xnd_bool, xnd_int, xnd_str, xnd_list, xnd_tuple, beq_self_eq_true, ds_fzs, Bool.false_eq_true, q_le_0, q_lt_0, q_le_1, q_lt_1, q_le_2, q_lt_2, q_le_3, q_lt_3, q_le_4, q_lt_4, q_le_5, q_lt_5, q_le_6, q_lt_6, q_le_7, q_lt_7, q_le_8, q_lt_8, q_le_9, q_lt_9, q_le_10, q_lt_10, q_le_11, q_lt_11, q_le_12, q_lt_12, e_xE_25, e_xE_26, e_xE_27, e_xE_28, e_xE_29, e_xE_30, e_xE_31, e_xE_32, e_xS_17, e_xS_18, e_xS_19, xb_bool, q_bT_tl, q_add_tup, q_add_str, q_frE_n, q_frE_0, q_frE_s, q_immO_f, q_immO_l, q_immO_t, q_immOs_n, q_immOs_c, q_immD_n, q_immD_b, q_immD_i, q_immD_s, q_immD_t, q_immDs_n, q_immDs_c, q_str_int, q_str_str, q_txt_int, q_txt_str, q_cat_n, q_cat_c, q_cst_s, q_cst_i, q_isb, xr_nx, xr_ct, xr_bk, xr_rt, q_lturn, q_l2turn, q_turn, q_wtest, q_lcX_n, q_lcX_c, q_lcY_n, q_lcY_c, q_lc2X_n, q_lc2X_c, q_lc2Y_n, q_lc2Y_c, q_forX_n, q_forX_c, q_eqb, q_neb, q_eqi, q_nei, q_eqn, List.isEmpty_cons, List.isEmpty_nil, decide_false, q_zip_lt, q_zip_tl, q_cst_t, q_ca_n, q_ca_i, q_ca_s, q_rev_l, q_rev_t, e_xE_33, ds_oI, *])
section
variable {F : List Fn} {g c b r : Nat}
theorem lawA {K N : Nat} (h : F[g]? = some (fLawA c b r K N)) (hc : F[c]? = some fCells) (hb : F[b]? = some fBox) (hK : 0 < K) (hK2 : K ≤ 100) (hN : N ≤ 100) (Z : Nat) (hZ : Z ≤ 1000000000) (W n : Nat)
    (hr : ∀ (m : Nat) (l : List OV), Bx (m + Z) l → ∃ l', Bx m l' ∧ evF F W (n + 1) r [.ol l] = some (oB true, [.ol l'])) (ns : List Int) : evF F W (n + 2) g [.fz (.list (ns.map .int))] = some (oB true, []) := by
  obtain ⟨xs, hx0, hx1, e1⟩ := cells_spec hc W n K hK ns
  have r1 : rngOk ((xs.map PyData.int).length : Int) = true := by
    rw [List.length_map]
    unfold rngOk
    rw [decide_eq_true (by omega), decide_eq_true (by omega)]
    rfl
  have r2 : rngOk (N : Int) = true := by
    unfold rngOk
    rw [decide_eq_true (by omega), decide_eq_true (by omega)]
    rfl
  rw [ev_call h]
  unfold fLawA
  clear hx0 h
  walk_at "ev"
  generalize hS : forX _ _ _ _ _ = Y
  have h2 : ∃ ρ' : Env, (∃ (o2 o3 o4 : Option OV), ρ' = [some (.fz (.list (ns.map .int))), some (.fz (.list (xs.map .int))), o2, o3, o4]) ∧ Y = some (.nx ρ') := by
    rw [← hS]
    clear hS Y
    refine forX_inv (fun _ ρ' => ∃ (o2 o3 o4 : Option OV), ρ' = [some (.fz (.list (ns.map .int))), some (.fz (.list (xs.map .int))), o2, o3, o4]) _ 0 ?_ _ ⟨none, none, none, rfl⟩
    clear e1 r1
    rintro d hd j ρ ⟨o2, o3, o4, rfl⟩
    obtain ⟨i, rfl, hi⟩ := range_mem0 hd
    rw [List.length_map] at hi
    obtain ⟨l, e2, hx⟩ := box_spec hb W n xs i hi
    have hB : Bx (0 + Z * N) l := hx _ (by
      have : Z * N ≤ 1000000000 * 100 := Nat.mul_le_mul hZ hN
      omega)
    obtain ⟨ρ', ⟨l', p4, b', rfl⟩, e3⟩ : ∃ ρ', (∃ l' p4, Bx (0 + Z * 0) l' ∧ ρ' = [some (.fz (.list (ns.map .int))), some (.fz (.list (xs.map .int))), some (oI i), some (.ol l'), p4]) ∧ lcX ⟨evF F W (n + 1), W⟩ [4] (.nm 4) (.c (.bool true)) (.call r (.io 3 .nil)) (rangeD 0 N) [some (.fz (.list (ns.map .int))), some (.fz (.list (xs.map .int))), some (oI i), some (.ol l), o4] = some ((rangeD 0 N).map fun _ => oB true, ρ') := by
      refine lcX_all (fun j ρ => ∃ l' p4, Bx (0 + Z * j) l' ∧ ρ = [some (.fz (.list (ns.map .int))), some (.fz (.list (xs.map .int))), some (oI i), some (.ol l'), p4]) (rangeD 0 N) 0 ?_ _ ⟨l, o4, by rw [range_len, Nat.zero_add N]; exact hB, rfl⟩
      rintro d hd j ρ ⟨l1, p4, bx, rfl⟩
      obtain ⟨l2, b2, e4⟩ := hr (0 + Z * j) l1 (by rw [show 0 + Z * j + Z = 0 + Z * (j + 1) from by rw [Nat.mul_succ]; omega]; exact bx)
      refine ⟨_, ⟨l2, some (.fz d), b2, rfl⟩, ?_⟩
      clear bx b2 hr hB hx e2 hd
      walk_at "ev"
    have hl : decide (((rangeD 0 N).map fun _ => oB true).length < SZ) = true := decide_eq_true (by rw [List.length_map, range_len]; unfold SZ; omega)
    have ha := all_tt (rangeD 0 N)
    have hY : lcY ⟨evF F W (n + 1), W⟩ [4] (.nm 4) (.c (.bool true)) (.call r (.io 3 .nil)) (rangeD 0 N) [some (.fz (.list (ns.map .int))), some (.fz (.list (xs.map .int))), some (oI i), some (.ol l), o4] = some (.ol ((rangeD 0 N).map fun _ => oB true), [some (.fz (.list (ns.map .int))), some (.fz (.list (xs.map .int))), some (oI i), some (.ol l'), o4]) := by
      unfold lcY
      clear ha
      walk_at "ev"
    refine ⟨[some (.fz (.list (ns.map .int))), some (.fz (.list (xs.map .int))), some (oI i), some (.ol l'), o4], ⟨_, _, _, rfl⟩, ?_⟩
    clear hr hB hx b' e3 hl hi hd hx1
    walk_at "ev"
  obtain ⟨ρ', ⟨o2, o3, o4, rfl⟩, rfl⟩ := h2
  clear hS r1 e1 hx1
  walk_at "ev"
end
end PF

namespace PF
open PySem
theorem intsD_map : ∀ is : List Int, intsD (is.map .int) = some is
  | [] => rfl
  | i :: is => by
    show b1 (intsD (is.map .int)) _ = _
    rw [intsD_map is]
    rfl
theorem okD_ints (n : Nat) (is : List Int) : (is.map PyData.int).all (okD n) = true := by
  rw [List.all_eq_true]
  intro x hx
  obtain ⟨i, _, rfl⟩ := List.mem_map.mp hx
  cases n <;> rfl
mutual
theorem okD_lay : ∀ (n : Nat) (d : D), okD n d = true → d.canLay0 = true ∧ d.depth ≤ n
  | n, .none, h => ⟨by simp [PyData.canLay0], by simp [PyData.depth]⟩
  | n, .bool _, h => ⟨by simp [PyData.canLay0], by simp [PyData.depth]⟩
  | n, .int _, h => ⟨by simp [PyData.canLay0], by simp [PyData.depth]⟩
  | n, .str x, h => by
    have h : SeqAt.shaped (.str x) = true := by cases n <;> exact h
    exact ⟨SeqAt.canLay_of_shaped h, by simp [PyData.depth]⟩
  | 0, .list xs, h => by cases h
  | 0, .tuple xs, h => by cases h
  | n + 1, .list xs, h => by
    have h2 := (Bool.and_eq_true_iff.mp (show (decide (xs.length < SZ) && xs.all (okD n)) = true from h)).2
    obtain ⟨a, b⟩ := okDs_lay n xs h2
    exact ⟨by simpa [PyData.canLay0] using a, by simp only [PyData.depth]; omega⟩
  | n + 1, .tuple xs, h => by
    have h2 := (Bool.and_eq_true_iff.mp (show (decide (xs.length < SZ) && xs.all (okD n)) = true from h)).2
    obtain ⟨a, b⟩ := okDs_lay n xs h2
    exact ⟨by simpa [PyData.canLay0] using a, by simp only [PyData.depth]; omega⟩
  | 0, .dict _, h => by cases h
  | n + 1, .dict _, h => by cases h
theorem okDs_lay : ∀ (n : Nat) (ds : List D), ds.all (okD n) = true → PyData.canLayAll0 ds = true ∧ PyData.depthAll ds ≤ n
  | n, [], h => ⟨by simp [PyData.canLayAll0], by simp [PyData.depthAll]⟩
  | n, d :: ds, h => by
    obtain ⟨h1, h2⟩ := Bool.and_eq_true_iff.mp (show (okD n d && ds.all (okD n)) = true from h)
    obtain ⟨a, b⟩ := okD_lay n d h1
    obtain ⟨a2, b2⟩ := okDs_lay n ds h2
    exact ⟨by simp [PyData.canLayAll0, a, a2], by simp only [PyData.depthAll]; omega⟩
end
theorem okD_shaped {n : Nat} {d : D} (h : okD n d = true) (hn : n ≤ 64) : SeqAt.shaped d = true := by
  obtain ⟨a, b⟩ := okD_lay n d h
  unfold SeqAt.shaped
  rw [a, decide_eq_true (by omega)]
  rfl
/-- x == x -/
theorem cmp_refl {n : Nat} {d : D} (h : okD n d = true) (hn : n ≤ 64) : cmpD .eq d d = some true ∧ cmpD .ne d d = some false := by
  have s := okD_shaped h hn
  have e := SeqAt.eqv_refl _ (SeqAt.canLay_of_shaped s)
  constructor
  · show gd (_ && _) (some _) = _
    rw [s, e]
    rfl
  · show gd (_ && _) (some (!_)) = _
    rw [s, e]
    rfl
def filF (p : Int → Bool) : D → List OV
  | .int i => if p i then [oI i] else []
  | _ => []
theorem fil_flat (p : Int → Bool) : ∀ ms : List Int, (ms.map PyData.int).flatMap (filF p) = fzs ((ms.filter p).map .int)
  | [] => rfl
  | m :: ms => by
    rw [List.map_cons, List.flatMap_cons, fil_flat p ms, List.filter_cons]
    show (if p m then [oI m] else []) ++ _ = _
    cases p m <;> rfl
theorem lcY_fil {C : Ctx} {own : List Nat} {tg : T} {cnd elt : E} {ρ : Env} (ms : List Int) (p : Int → Bool) (hl : ms.length < SZ) (h : ∀ i ∈ ms, ∃ ρ'', lturn C own tg cnd elt (.int i) ρ = some (if p i then [oI i] else [], ρ'') ∧ wipC ρ'' own = wipC ρ own) :
    lcY C own tg cnd elt (ms.map .int) ρ = some (.ol (fzs ((ms.filter p).map .int)), ρ) := by
  rw [← fil_flat p ms]
  refine lcY_pure (filF p) ?_ ?_
  · rw [fil_flat]
    unfold fzs
    rw [List.length_map, List.length_map]
    exact Nat.lt_of_le_of_lt (List.length_filter_le ..) hl
  · intro d hd
    obtain ⟨i, hi, rfl⟩ := List.mem_map.mp hd
    exact h i hi
/-- a comprehension that draws ints, one each turn -/
theorem lcX_ints {C : Ctx} {own : List Nat} {tg : T} {cnd elt : E} (P : Nat → Env → Prop) (R : Int → Prop) : ∀ (ds : List D) (k : Nat), (∀ d ∈ ds, ∀ j ρ, P (j + 1) ρ → ∃ i ρ', R i ∧ P j ρ' ∧ lturn C own tg cnd elt d ρ = some ([oI i], ρ')) → ∀ ρ, P (k + ds.length) ρ →
    ∃ (is : List Int) (ρ' : Env), is.length = ds.length ∧ (∀ i ∈ is, R i) ∧ P k ρ' ∧ lcX C own tg cnd elt ds ρ = some (fzs (is.map .int), ρ')
  | [], k, _, ρ, h => ⟨[], ρ, rfl, fun _ z => absurd z List.not_mem_nil, h, rfl⟩
  | d :: ds, k, hs, ρ, h => by
    obtain ⟨i, ρ1, h0, h1, e1⟩ := hs d List.mem_cons_self (k + ds.length) ρ (by rw [List.length_cons] at h; exact h)
    obtain ⟨is, ρ2, hn, hr, h2, e2⟩ := lcX_ints P R ds k (fun d hd => hs d (List.mem_cons_of_mem _ hd)) ρ1 h1
    refine ⟨i :: is, ρ2, by rw [List.length_cons, List.length_cons, hn], fun x hx => ?_, h2, ?_⟩
    · rcases List.mem_cons.mp hx with e | e
      · rw [e]; exact h0
      · exact hr x e
    · rw [q_lcX_c, e1, xd_some, e2]
      rfl
def mxO : List Int → Option Int
  | [] => none
  | i :: is => some (maxI i is)
def mnO : List Int → Option Int
  | [] => none
  | i :: is => some (minI i is)
theorem q_mxd (is : List Int) : p1D .mxd (.list (is.map .int)) = some (.fz (oi (mxO is))) := by
  show b1 (intsD (is.map .int)) _ = _
  rw [intsD_map]
  cases is <;> rfl
theorem q_mnd (is : List Int) : p1D .mnd (.list (is.map .int)) = some (.fz (oi (mnO is))) := by
  show b1 (intsD (is.map .int)) _ = _
  rw [intsD_map]
  cases is <;> rfl
theorem q_maxl (i : Int) (is : List Int) : bltD .max [.list (.int i :: is.map .int)] = some (oI (maxI i is)) := by
  show b1 (intsD ((i :: is).map .int)) _ = _
  rw [intsD_map]
  rfl
theorem q_minl (i : Int) (is : List Int) : bltD .min [.list (.int i :: is.map .int)] = some (oI (minI i is)) := by
  show b1 (intsD ((i :: is).map .int)) _ = _
  rw [intsD_map]
  rfl
theorem q_srsM (is : List Int) (h : decide (is.length < 4000) = true) : p1D .srs (.list (is.map .int)) = some (.ol (fzs ((setI is).map .int))) := by
  have e : p1D .srs (.list (is.map .int)) = b1 (intsD (is.map .int)) fun is => gd (decide (is.length < 4000)) (some (.ol (fzs ((setI is).map .int)))) := by
    show srsD (is.map .int) = _
    cases is with
    | nil => rfl
    | cons i is => rfl
  rw [e, intsD_map]
  show gd _ _ = _
  rw [h]
  rfl
theorem q_srs (is : List Int) (h : decide (is.length < 64) = true) : p1D .srs (.list (is.map .int)) = some (.ol (fzs ((setI is).map .int))) := q_srsM is (decide_eq_true (by have := of_decide_eq_true h; omega))
theorem q_nec (i : Int) (is : List Int) (hl : is.length < 1000000) : cmpD .ne (.list (.int i :: is.map .int)) (.list []) = some true := by
  have s : SeqAt.shaped (.list (.int i :: is.map .int)) = true := okD_shaped (n := 1) (by
    show (decide (((i :: is).map PyData.int).length < SZ) && ((i :: is).map PyData.int).all (okD 0)) = true
    rw [okD_ints, decide_eq_true (by rw [List.length_map, List.length_cons]; unfold SZ; omega)]
    rfl) (by decide)
  show gd (_ && _) (some (!_)) = _
  rw [s]
  rfl
theorem q_nen : cmpD .ne (.list []) (.list []) = some false := by rfl
end PF

/-! PF: the other form of take, of the law's end; loops over range. -/
namespace PF
open PySem
local macro_rules | `(tactic| walk_at "ev") => `(tactic| simp only [xRun, startE, List.map_cons, List.map_nil, List.length_cons, List.length_nil, Nat.zero_add, Nat.reduceAdd, Nat.reduceSub, decide_true, xg_true, List.cons_append, List.nil_append, List.append_nil, List.getElem?_cons_zero, List.getElem?_cons_succ, List.replicate, List.set_cons_zero, List.set_cons_succ, x1_some, xd_some, xi_int, xz_fz, xl_ol, xf_nx, xf_rt, xf_bk, xf_ct, q_par_n, q_par_t, q_par_f, xs_true, xs_false, xn_none, xn_int, xn_bool, xn_str, xn_list, xn_tuple, Int.cast_ofNat_Int, Int.reduceToNat, Int.reduceLE, Int.reduceLT, Int.reducePow, Int.reduceNeg, Int.reduceAdd, Int.reduceSub, Int.reduceMul, Int.reduceBEq, Int.reduceBNe, if_true, if_false, ↓reduceIte, Int.toNat_zero, e_xE_0, e_xE_1, e_xE_2, e_xE_3, e_xE_4, e_xE_5, e_xE_6, e_xE_7, e_xE_8, e_xE_9, e_xE_10, e_xE_11, e_xE_12, e_xE_13, e_xE_14, e_xE_15, e_xE_16, e_xE_17, e_xE_18, e_xE_19, e_xE_20, e_xE_21, e_xE_22, e_xE_23, e_xE_24, e_xO_0, e_xO_1, e_xEs_0, e_xEs_1, e_xA_0, e_xA_1, e_xA_2, e_xI_0, e_xI_1, e_xI_2, e_xI_3, e_xI_4, e_xS_0, e_xS_1, e_xS_2, e_xS_3, e_xS_4, e_xS_5, e_xS_6, e_xS_7, e_xS_8, e_xS_9, e_xS_10, e_xS_11, e_xS_12, e_xS_13, e_xS_14, e_xS_15, e_xS_16, e_xSs_0, e_xSs_1, q_add_int, q_add_list, q_sub_int, q_mul_int, q_fdiv_int, q_mod_int, q_pow7, q_pow18, q_pow20, q_tru_none, q_tru_bool, q_tru_int, q_tru_list, q_tru_tuple, q_cmp_lt, q_cmp_le, q_cmp_gt, q_cmp_ge, q_idx_list, q_idx_tuple, q_len_list, q_len_tuple, q_abs_int, q_int_int, q_int_bool, q_min_two, q_max_two, q_list_list, q_list_tuple, q_tuple_list, q_tuple_tuple, q_slc_list, q_slc_tuple, q_getF_0, q_getF_s, q_getL_0, q_getL_s, q_get_0, q_get_s, q_optI_n, q_optI_s, q_items_l, q_items_t, q_listD_l, q_zip_l, q_zip_t, q_d_fz, q_d_ol, q_d_ot, q_ds_n, q_ds_c, q_outs_n, q_ty_int_none, q_ty_int_bool, q_ty_int_int, q_ty_int_str, q_ty_int_list, q_ty_int_tuple, q_ty_bool_none, q_ty_bool_bool, q_ty_bool_int, q_ty_bool_str, q_ty_bool_list, q_ty_bool_tuple, q_ty_str_none, q_ty_str_bool, q_ty_str_int, q_ty_str_str, q_ty_str_list, q_ty_str_tuple, q_ty_list_none, q_ty_list_bool, q_ty_list_int, q_ty_list_str, q_ty_list_list, q_ty_list_tuple, q_ty_tuple_none, q_ty_tuple_bool, q_ty_tuple_int, q_ty_tuple_str, q_ty_tuple_list, q_ty_tuple_tuple, q_at, q_ix, q_gd, q_bd, q_b1, List.not_mem_nil, not_false_eq_true, List.any_cons, List.any_nil, Bool.or_true, Bool.true_or, Bool.or_false, Bool.false_or, Bool.not_true, Bool.not_false, Bool.and_true, Bool.true_and, Bool.and_false, Bool.false_and, Nat.reduceLT, Nat.reduceLeDiff, bne_self_eq_false, Int.toNat_natCast, q_bT_nm, q_bT_tp, q_bTs_n, q_bTs_c, q_res_n, q_res_l, q_res_r, q_slo_n, q_slo_l, q_slo_r, q_put_n, q_put_c, q_wip_n, q_wip_c, q_wiC_n, q_wiC_c, q_bkE_n, q_bkE_c, q_jn, q_prm_n, q_prm_c, q_fzs_n, q_fzs_c, q_alz_n, q_alz_c, q_alz_l, q_alz_t, q_mkT, q_mkT_s, q_mkT_n, q_out_n, q_out_c, q_end_r, q_end_n, xnd_none, xnd_bool, xnd_int, xnd_str, xnd_list, xnd_tuple, beq_self_eq_true, ds_fzs, Bool.false_eq_true, q_le_0, q_lt_0, q_le_1, q_lt_1, q_le_2, q_lt_2, q_le_3, q_lt_3, q_le_4, q_lt_4, q_le_5, q_lt_5, q_le_6, q_lt_6, q_le_7, q_lt_7, q_le_8, q_lt_8, q_le_9, q_lt_9, q_le_10, q_lt_10, q_le_11, q_lt_11, q_le_12, q_lt_12, e_xE_25, e_xE_26, e_xE_27, e_xE_28, e_xE_29, e_xE_30, e_xE_31, e_xE_32, e_xS_17, e_xS_18, e_xS_19, xb_bool, q_bT_tl, q_add_tup, q_add_str, q_frE_n, q_frE_0, q_frE_s, q_immO_f, q_immO_l, q_immO_t, q_immOs_n, q_immOs_c, q_immD_n, q_immD_b, q_immD_i, q_immD_s, q_immD_t, q_immDs_n, q_immDs_c, q_str_int, q_str_str, q_txt_int, q_txt_str, q_cat_n, q_cat_c, q_cst_s, q_cst_i, q_isb, xr_nx, xr_ct, xr_bk, xr_rt, q_lturn, q_l2turn, q_turn, q_wtest, q_lcX_n, q_lcX_c, q_lcY_n, q_lcY_c, q_lc2X_n, q_lc2X_c, q_lc2Y_n, q_lc2Y_c, q_forX_n, q_forX_c, q_eqb, q_neb, q_eqi, q_nei, q_eqn, List.isEmpty_cons, List.isEmpty_nil, decide_false, q_zip_lt, q_zip_tl, q_cst_t, q_ca_n, q_ca_i, q_ca_s, q_rev_l, q_rev_t, e_xE_33, *])
def fTakeB (t : Nat) : Fn := ⟨2, 6, [0], (.cons (.iff (.cmp .gt (.idxO 0 (.c (.int 0))) (.c (.int 0))) (.cons (.asg true (.nm 4) (.bin .mod (.idxO 0 (.c (.int 0))) (.v 1))) (.cons (.setO 0 (.c (.int 0)) (.bin .fdiv (.idxO 0 (.c (.int 0))) (.v 1))) (.cons (.ret (.v 4)) .nil))) .nil) (.cons (.iff (.cmp .gt (.v 1) (.bin .pow (.c (.int 10)) (.c (.int 7)))) (.cons (.asg true (.nm 5) (.call t (.io 0 (.ev (.bin .pow (.c (.int 10)) (.c (.int 7))) .nil)))) (.cons (.ret (.bin .mod (.bin .add (.v 5) (.bin .mul (.bin .pow (.c (.int 10)) (.c (.int 7))) (.call t (.io 0 (.ev (.bin .add (.bin .fdiv (.bin .sub (.v 1) (.c (.int 1))) (.bin .pow (.c (.int 10)) (.c (.int 7)))) (.c (.int 1))) .nil))))) (.v 1))) .nil)) .nil) (.cons (.setO 0 (.c (.int 2)) (.bin .add (.idxO 0 (.c (.int 2))) (.c (.int 1)))) (.cons (.asg true (.nm 2) (.bin .mod (.bin .mul (.bin .add (.idxO 0 (.c (.int 1))) (.bin .mul (.c (.int 48271)) (.idxO 0 (.c (.int 2))))) (.bin .add (.c (.int 39373)) (.idxO 0 (.c (.int 2))))) (.c (.int 2147483647)))) (.cons (.asg true (.nm 3) (.bin .mod (.bin .mul (.bin .add (.bin .add (.v 2) (.idxO 0 (.c (.int 2)))) (.bin .fdiv (.idxO 0 (.c (.int 1))) (.c (.int 1000003)))) (.bin .add (.bin .mod (.v 2) (.c (.int 40009))) (.c (.int 7)))) (.c (.int 2147483629)))) (.cons (.ret (.bin .mod (.bin .fdiv (.bin .mod (.bin .add (.bin .mul (.v 3) (.c (.int 48271))) (.v 2)) (.c (.int 2147483587))) (.c (.int 64))) (.v 1))) .nil))))))⟩
section
variable {F : List Fn} {t : Nat}
theorem take_bigB (h : F[t]? = some (fTakeB t)) (W n : Nat) {a b c k : Int} (h0 : 0 < a) (hk : 0 < k) (hd : k < 2 ^ 64) : evF F W (n + 1) t [.ol [oI a, oI b, oI c], oI k] = some (oI (a.fmod k), [.ol [oI (a.fdiv k), oI b, oI c]]) := by
  have e : decide (0 < a) = true := decide_eq_true h0
  have e2 : decide (k ≠ 0) = true := decide_eq_true (by omega)
  have e3 := divOk_of hk hd
  rw [ev_call h]
  clear h h0 hk hd
  unfold fTakeB
  walk_at "ev"
theorem take_smallB (h : F[t]? = some (fTakeB t)) (W n : Nat) {a b c k : Int} (h0 : ¬ 0 < a) (hk : 0 < k) (hd : k ≤ 10 ^ 7) (hc : 0 ≤ c) (hc2 : c < 2 ^ 62) : ∃ r : Int, 0 ≤ r ∧ evF F W (n + 1) t [.ol [oI a, oI b, oI c], oI k] = some (oI (r.fmod k), [.ol [oI a, oI b, oI (c + 1)]]) := by
  have e : decide (0 < a) = false := decide_eq_false h0
  have e2 : decide (k ≠ 0) = true := decide_eq_true (by omega)
  have e3 : decide (10000000 < k) = false := decide_eq_false (by omega)
  have m1 : mulOk 48271 (c + 1) = true := mulOk_l (by decide) (by decide)
  have m2 : mulOk (b + 48271 * (c + 1)) (39373 + (c + 1)) = true := mulOk_r (by omega) (by omega)
  have d1 : divOk 1000003 = true := by decide
  have d2 : divOk 64 = true := by decide
  obtain ⟨x, hx⟩ : ∃ x, x = ((b + 48271 * (c + 1)) * (39373 + (c + 1))).fmod 2147483647 := ⟨_, rfl⟩
  have x1 : 0 ≤ x := hx ▸ Int.fmod_nonneg_of_pos _ (by decide)
  have m3 : mulOk (x + (c + 1) + b.fdiv 1000003) (x.fmod 40009 + 7) = true := by
    have := Int.fmod_nonneg_of_pos x (b := 40009) (by decide)
    have := Int.fmod_lt_of_pos x (b := 40009) (by decide)
    exact mulOk_r (by omega) (by omega)
  obtain ⟨y, hy⟩ : ∃ y, y = ((x + (c + 1) + b.fdiv 1000003) * (x.fmod 40009 + 7)).fmod 2147483629 := ⟨_, rfl⟩
  have m4 : mulOk y 48271 = true := mulOk_r (by decide) (by decide)
  have z0 := Int.fmod_nonneg_of_pos (y * 48271 + x) (b := 2147483587) (by decide)
  refine ⟨((y * 48271 + x).fmod 2147483587).fdiv 64, Int.fdiv_nonneg z0 (by decide), ?_⟩
  have q1 : decide ((2147483647 : Int) ≠ 0) = true := by decide
  have q2 : decide ((2147483629 : Int) ≠ 0) = true := by decide
  have q3 : decide ((2147483587 : Int) ≠ 0) = true := by decide
  have q4 : decide ((40009 : Int) ≠ 0) = true := by decide
  have q5 : powOk 10 7 = true := by decide
  replace hx := hx.symm
  replace hy := hy.symm
  rw [ev_call h]
  clear h h0 hk hd hc hc2 z0 x1
  unfold fTakeB
  walk_at "ev"
theorem take_specB (h : F[t]? = some (fTakeB t)) (W n : Nat) {m : Nat} {k : Int} {l : List OV} (b : Bx (m + 1) l) (hk : 0 < k) (hd : k ≤ 10 ^ 7) : ∃ (r : Int) (l' : List OV), evF F W (n + 1) t [.ol l, oI k] = some (oI r, [.ol l']) ∧ Bx m l' ∧ 0 ≤ r ∧ r < k := by
  obtain ⟨a, b, c, rfl, h1, h2⟩ := b
  by_cases h0 : 0 < a
  · exact ⟨_, _, take_bigB h W n h0 hk (by omega), ⟨_, _, _, rfl, h1, by omega⟩, Int.fmod_nonneg_of_pos _ hk, Int.fmod_lt_of_pos _ hk⟩
  · obtain ⟨r, hr, e⟩ := take_smallB h W n (b := b) h0 hk hd h1 (by omega)
    exact ⟨_, _, e, ⟨_, _, _, rfl, by omega, by omega⟩, Int.fmod_nonneg_of_pos _ hk, Int.fmod_lt_of_pos _ hk⟩
theorem of_specB {g : Nat} (h : F[t]? = some (fTakeB t)) (hg : F[g]? = some (fOf t)) (W n : Nat) {m : Nat} {xs : List D} {l : List OV} (b : Bx (m + 1) l) (hk : 0 < xs.length) (hd : xs.length ≤ 10 ^ 7) : ∃ (x : D) (l' : List OV), evF F W (n + 2) g [.ol l, .fz (.list xs)] = some (.fz x, [.ol l']) ∧ Bx m l' ∧ x ∈ xs := by
  obtain ⟨r, l', e, b', r1, r2⟩ := take_specB h W n b (k := xs.length) (by omega) (by omega)
  obtain ⟨i, rfl⟩ := Int.eq_ofNat_of_zero_le r1
  have hi : i < xs.length := by omega
  obtain ⟨x, hx⟩ : ∃ x, x = xs[i] := ⟨_, rfl⟩
  refine ⟨x, l', ?_, b', hx ▸ List.getElem_mem hi⟩
  have e1 : (0 : Int) ≤ (i : Int) := by omega
  have e2 : (i : Int) < (xs.length : Int) := by omega
  have e3 : xs[i]? = some x := hx ▸ List.getElem?_eq_getElem hi
  have e4 : ((i : Int)).toNat = i := rfl
  have e5 : idxD (.list xs) (.int i) = some x := by
    show b1 (ixN _ _) _ = _
    unfold ixN
    rw [if_pos e1, if_pos e2]
    exact e3
  have e6 : decide (0 ∉ ([] : List Nat)) = true := by decide
  rw [ev_call hg]
  clear h hg hk hd r1 r2 b b' e1 e2 e3 e4 hx
  unfold fOf
  walk_at "ev"
end
section
variable {F : List Fn} {t : Nat}
/-- take of a number of any size -/
theorem take_wideB (h : F[t]? = some (fTakeB t)) (W : Nat) (j : Nat) : ∀ (n m : Nat) (k : Int) (l : List OV), Bx (m + j + 1) l → 0 < k → k ≤ tkB j → k < 18446744073709551616 → ∃ (r : Int) (l' : List OV), evF F W (n + j + 1) t [.ol l, oI k] = some (oI r, [.ol l']) ∧ Bx m l' ∧ 0 ≤ r ∧ r < k := by
  induction j with
  | zero =>
    intro n m k l b hk hd _
    obtain ⟨r, l', e, b', h1, h2⟩ := take_specB h W n (m := m) b hk hd
    exact ⟨r, l', e, b', h1, h2⟩
  | succ j ih =>
    intro n m k l b hk hd hz
    by_cases hs : k ≤ 10000000
    · obtain ⟨r, l', e, b', h1, h2⟩ := take_specB h W (n + j + 1) (m := m) (b.mono (by omega)) hk hs
      exact ⟨r, l', e, b', h1, h2⟩
    · obtain ⟨a, bb, c, rfl, h1, h2⟩ := b
      by_cases h0 : 0 < a
      · exact ⟨_, _, take_bigB h W (n + j + 1) h0 hk hz, ⟨_, _, _, rfl, h1, by omega⟩, Int.fmod_nonneg_of_pos _ hk, Int.fmod_lt_of_pos _ hk⟩
      · obtain ⟨r1, l1, e1, b1, p1, q1⟩ := take_specB h W (n + j) (m := m + j + 1) (k := 10000000) (l := [oI a, oI bb, oI c]) ⟨a, bb, c, rfl, h1, by omega⟩ (by decide) (Int.le_refl _)
        have hd : k ≤ tkB j * 10000000 := hd
        obtain ⟨k2, ek⟩ : ∃ k2, k2 = (k - 1).fdiv 10000000 + 1 := ⟨_, rfl⟩
        have hk2 : 0 < k2 ∧ k2 ≤ tkB j ∧ k2 < 18446744073709551616 := by
          rw [ek, Int.fdiv_eq_ediv_of_nonneg _ (by decide)]
          omega
        obtain ⟨r2, l2, e2, b2, p2, q2⟩ := ih n m k2 l1 b1 hk2.1 hk2.2.1 hk2.2.2
        refine ⟨(r1 + 10000000 * r2).fmod k, l2, ?_, b2, Int.fmod_nonneg_of_pos _ hk, Int.fmod_lt_of_pos _ hk⟩
        rw [ek] at e2
        have c1 : decide (0 < a) = false := decide_eq_false h0
        have c2 : decide (10000000 < k) = true := decide_eq_true (by omega)
        have c3 : decide (k ≠ 0) = true := decide_eq_true (by omega)
        have c4 : divOk 10000000 = true := by decide
        have c5 : mulOk 10000000 r2 = true := mulOk_l (by decide) (by decide)
        rw [show n + (j + 1) + 1 = (n + j + 1) + 1 from rfl, ev_call h]
        clear h h0 hk hd hz hs h1 h2 b1 b2 hk2 p1 q1 p2 q2 ih ek
        unfold fTakeB
        walk_at "ev"
end

/-- for i in range(n), by i -/
theorem forX_range {C : Ctx} {t : T} {b : Ss} {n : Nat} (P : Nat → Env → Prop) (hs : ∀ i < n, ∀ ρ, P i ρ → ∃ ρ', P (i + 1) ρ' ∧ turn C t b (.int (i : Nat)) ρ = some (.nx ρ')) {ρ : Env} (h : P 0 ρ) : ∃ ρ', P n ρ' ∧ forX C t b (rangeD 0 n) ρ = some (.nx ρ') := by
  have key : ∀ (k j : Nat) (ρ : Env), j + k = n → P j ρ → ∃ ρ', P n ρ' ∧ forX C t b ((List.range' j k).map fun i => PyData.int (i : Nat)) ρ = some (.nx ρ') := by
    intro k
    induction k with
    | zero =>
      intro j ρ e h
      have : j = n := by omega
      subst this
      exact ⟨ρ, h, rfl⟩
    | succ k ih =>
      intro j ρ e h
      obtain ⟨ρ1, h1, e1⟩ := hs j (by omega) ρ h
      obtain ⟨ρ2, h2, e2⟩ := ih (j + 1) ρ1 (by omega) h1
      refine ⟨ρ2, h2, ?_⟩
      rw [List.range'_succ, List.map_cons, q_forX_c, e1, x1_some, xr_nx]
      exact e2
  have e : rangeD 0 n = (List.range' 0 n).map fun i => PyData.int (i : Nat) := by
    unfold rangeD
    rw [List.range_eq_range']
    apply List.map_congr_left
    intro i _
    rw [Int.zero_add]
  rw [e]
  exact key n 0 ρ (by omega) h
/-- a comprehension over range(n) whose turns draw: by i -/
theorem lcX_range {C : Ctx} {own : List Nat} {tg : T} {cnd elt : E} {n : Nat} {α : Type} (f : α → OV) (P : Nat → Env → Prop) (R : α → Prop) (hs : ∀ i < n, ∀ ρ, P i ρ → ∃ x ρ', R x ∧ P (i + 1) ρ' ∧ lturn C own tg cnd elt (.int (i : Nat)) ρ = some ([f x], ρ')) {ρ : Env} (h : P 0 ρ) :
    ∃ (xs : List α) (ρ' : Env), xs.length = n ∧ (∀ x ∈ xs, R x) ∧ P n ρ' ∧ lcX C own tg cnd elt (rangeD 0 n) ρ = some (xs.map f, ρ') := by
  have key : ∀ (k j : Nat) (ρ : Env), j + k = n → P j ρ → ∃ (xs : List α) (ρ' : Env), xs.length = k ∧ (∀ x ∈ xs, R x) ∧ P n ρ' ∧ lcX C own tg cnd elt ((List.range' j k).map fun i => PyData.int (i : Nat)) ρ = some (xs.map f, ρ') := by
    intro k
    induction k with
    | zero =>
      intro j ρ e h
      have : j = n := by omega
      subst this
      exact ⟨[], ρ, rfl, fun _ z => absurd z List.not_mem_nil, h, rfl⟩
    | succ k ih =>
      intro j ρ e h
      obtain ⟨x, ρ1, r1, h1, e1⟩ := hs j (by omega) ρ h
      obtain ⟨xs, ρ2, l2, r2, h2, e2⟩ := ih (j + 1) ρ1 (by omega) h1
      refine ⟨x :: xs, ρ2, by rw [List.length_cons, l2], fun y hy => ?_, h2, ?_⟩
      · rcases List.mem_cons.mp hy with z | z
        · rw [z]; exact r1
        · exact r2 y z
      · rw [List.range'_succ, List.map_cons, q_lcX_c, e1, xd_some, e2]
        rfl
  have e : rangeD 0 n = (List.range' 0 n).map fun i => PyData.int (i : Nat) := by
    unfold rangeD
    rw [List.range_eq_range']
    apply List.map_congr_left
    intro i _
    rw [Int.zero_add]
  rw [e]
  exact key n 0 ρ (by omega) h
def fLawB (c b r K : Nat) : Fn := ⟨1, 3, [], (.cons (.asg true (.nm 1) (.call c (.ev (.v 0) (.ev (.c (.int K)) .nil)))) (.cons (.ret (.blt .all (.cons (.lc [2] (.nm 2) (.rng1 (.blt .len (.cons (.v 1) .nil))) (.c (.bool true)) (.callt r (.call b (.ev (.v 1) (.ev (.v 2) .nil))))) .nil))) .nil))⟩
local macro_rules | `(tactic| walk_at "ev") => `(tactic| simp only [xRun, startE, List.map_cons, List.map_nil, List.length_cons, List.length_nil, Nat.zero_add, Nat.reduceAdd, Nat.reduceSub, decide_true, xg_true, List.cons_append, List.nil_append, List.append_nil, List.getElem?_cons_zero, List.getElem?_cons_succ, List.replicate, List.set_cons_zero, List.set_cons_succ, x1_some, xd_some, xi_int, xz_fz, xl_ol, xf_nx, xf_rt, xf_bk, xf_ct, q_par_n, q_par_t, q_par_f, xs_true, xs_false, xn_none, xn_int, xn_bool, xn_str, xn_list, xn_tuple, Int.cast_ofNat_Int, Int.reduceToNat, Int.reduceLE, Int.reduceLT, Int.reducePow, Int.reduceNeg, Int.reduceAdd, Int.reduceSub, Int.reduceMul, Int.reduceBEq, Int.reduceBNe, if_true, if_false, ↓reduceIte, Int.toNat_zero, e_xE_0, e_xE_1, e_xE_2, e_xE_3, e_xE_4, e_xE_5, e_xE_6, e_xE_7, e_xE_8, e_xE_9, e_xE_10, e_xE_11, e_xE_12, e_xE_13, e_xE_14, e_xE_15, e_xE_16, e_xE_17, e_xE_18, e_xE_19, e_xE_20, e_xE_21, e_xE_22, e_xE_23, e_xE_24, e_xO_0, e_xO_1, e_xEs_0, e_xEs_1, e_xA_0, e_xA_1, e_xA_2, e_xI_0, e_xI_1, e_xI_2, e_xI_3, e_xI_4, e_xS_0, e_xS_1, e_xS_2, e_xS_3, e_xS_4, e_xS_5, e_xS_6, e_xS_7, e_xS_8, e_xS_9, e_xS_10, e_xS_11, e_xS_12, e_xS_13, e_xS_14, e_xS_15, e_xS_16, e_xSs_0, e_xSs_1, q_add_int, q_add_list, q_sub_int, q_mul_int, q_fdiv_int, q_mod_int, q_pow7, q_pow18, q_pow20, q_tru_none, q_tru_bool, q_tru_int, q_tru_list, q_tru_tuple, q_cmp_lt, q_cmp_le, q_cmp_gt, q_cmp_ge, q_idx_list, q_idx_tuple, q_len_list, q_len_tuple, q_abs_int, q_int_int, q_int_bool, q_min_two, q_max_two, q_list_list, q_list_tuple, q_tuple_list, q_tuple_tuple, q_slc_list, q_slc_tuple, q_getF_0, q_getF_s, q_getL_0, q_getL_s, q_get_0, q_get_s, q_optI_n, q_optI_s, q_items_l, q_items_t, q_listD_l, q_zip_l, q_zip_t, q_d_fz, q_d_ol, q_d_ot, q_ds_n, q_ds_c, q_outs_n, q_ty_int_none, q_ty_int_bool, q_ty_int_int, q_ty_int_str, q_ty_int_list, q_ty_int_tuple, q_ty_bool_none, q_ty_bool_bool, q_ty_bool_int, q_ty_bool_str, q_ty_bool_list, q_ty_bool_tuple, q_ty_str_none, q_ty_str_bool, q_ty_str_int, q_ty_str_str, q_ty_str_list, q_ty_str_tuple, q_ty_list_none, q_ty_list_bool, q_ty_list_int, q_ty_list_str, q_ty_list_list, q_ty_list_tuple, q_ty_tuple_none, q_ty_tuple_bool, q_ty_tuple_int, q_ty_tuple_str, q_ty_tuple_list, q_ty_tuple_tuple, q_at, q_ix, q_gd, q_bd, q_b1, List.not_mem_nil, not_false_eq_true, List.any_cons, List.any_nil, Bool.or_true, Bool.true_or, Bool.or_false, Bool.false_or, Bool.not_true, Bool.not_false, Bool.and_true, Bool.true_and, Bool.and_false, Bool.false_and, Nat.reduceLT, Nat.reduceLeDiff, bne_self_eq_false, Int.toNat_natCast, q_bT_nm, q_bT_tp, q_bTs_n, q_bTs_c, q_res_n, q_res_l, q_res_r, q_slo_n, q_slo_l, q_slo_r, q_put_n, q_put_c, q_wip_n, q_wip_c, q_wiC_n, q_wiC_c, q_bkE_n, q_bkE_c, q_jn, q_prm_n, q_prm_c, q_fzs_n, q_fzs_c, q_alz_n, q_alz_c, q_alz_l, q_alz_t, q_mkT, q_mkT_s, q_mkT_n, q_out_n, q_out_c, q_end_r, q_end_n, xnd_none, xnd_bool, xnd_int, xnd_str, xnd_list, xnd_tuple, beq_self_eq_true, ds_fzs, Bool.false_eq_true, q_le_0, q_lt_0, q_le_1, q_lt_1, q_le_2, q_lt_2, q_le_3, q_lt_3, q_le_4, q_lt_4, q_le_5, q_lt_5, q_le_6, q_lt_6, q_le_7, q_lt_7, q_le_8, q_lt_8, q_le_9, q_lt_9, q_le_10, q_lt_10, q_le_11, q_lt_11, q_le_12, q_lt_12, e_xE_25, e_xE_26, e_xE_27, e_xE_28, e_xE_29, e_xE_30, e_xE_31, e_xE_32, e_xS_17, e_xS_18, e_xS_19, xb_bool, q_bT_tl, q_add_tup, q_add_str, q_frE_n, q_frE_0, q_frE_s, q_immO_f, q_immO_l, q_immO_t, q_immOs_n, q_immOs_c, q_immD_n, q_immD_b, q_immD_i, q_immD_s, q_immD_t, q_immDs_n, q_immDs_c, q_str_int, q_str_str, q_txt_int, q_txt_str, q_cat_n, q_cat_c, q_cst_s, q_cst_i, q_isb, xr_nx, xr_ct, xr_bk, xr_rt, q_lturn, q_l2turn, q_turn, q_wtest, q_lcX_n, q_lcX_c, q_lcY_n, q_lcY_c, q_lc2X_n, q_lc2X_c, q_lc2Y_n, q_lc2Y_c, q_forX_n, q_forX_c, q_eqb, q_neb, q_eqi, q_nei, q_eqn, List.isEmpty_cons, List.isEmpty_nil, decide_false, q_zip_lt, q_zip_tl, q_cst_t, q_ca_n, q_ca_i, q_ca_s, q_rev_l, q_rev_t, e_xE_33, ds_oI, *])
section
variable {F : List Fn} {g c b r : Nat}
theorem lawB {K : Nat} (h : F[g]? = some (fLawB c b r K)) (hc : F[c]? = some fCells) (hb : F[b]? = some fBox) (hK : 0 < K) (hK2 : K ≤ 100) (Z : Nat) (hZ : Z ≤ 1000000000) (W n : Nat)
    (hr : ∀ l : List OV, Bx Z l → ∃ l', evF F W (n + 1) r [.ol l] = some (oB true, [.ol l'])) (ns : List Int) : evF F W (n + 2) g [.fz (.list (ns.map .int))] = some (oB true, []) := by
  obtain ⟨xs, hx0, hx1, e1⟩ := cells_spec hc W n K hK ns
  have r1 : rngOk ((xs.map PyData.int).length : Int) = true := by
    rw [List.length_map]
    unfold rngOk
    rw [decide_eq_true (by omega), decide_eq_true (by omega)]
    rfl
  rw [ev_call h]
  unfold fLawB
  have eY : lcY ⟨evF F W (n + 1), W⟩ [2] (.nm 2) (.c (.bool true)) (.callt r (.call b (.ev (.v 1) (.ev (.v 2) .nil)))) (rangeD 0 (xs.map PyData.int).length) [some (.fz (.list (ns.map .int))), some (.fz (.list (xs.map .int))), none] = some (.ol ((rangeD 0 (xs.map PyData.int).length).map fun _ => oB true), [some (.fz (.list (ns.map .int))), some (.fz (.list (xs.map .int))), none]) := by
    refine lcY_map (fun _ => oB true) (by rw [range_len, List.length_map]; unfold SZ; omega) fun d hd => ?_
    obtain ⟨i, rfl, hi⟩ := range_mem0 hd
    rw [List.length_map] at hi
    obtain ⟨l, e2, hx⟩ := box_spec hb W n xs i hi
    obtain ⟨l', e3⟩ := hr l (hx _ (by omega))
    refine ⟨[some (.fz (.list (ns.map .int))), some (.fz (.list (xs.map .int))), some (oI i)], ?_, rfl⟩
    clear hx hd hr e1 h r1 hx0 hx1 hi
    walk_at "ev"
  have ha := all_tt (rangeD 0 (xs.map PyData.int).length)
  clear hx0 h hr hx1
  walk_at "ev"
end
end PF

/-! PF: the equations of walks, in bundles. -/
namespace PF
open PySem
theorem wB0 : type_of% (And.intro (And.intro (And.intro (And.intro (And.intro (@xg_true) (And.intro (@x1_some) (@xd_some))) (And.intro (And.intro (@xi_int) (@xz_fz)) (And.intro (@xl_ol) (@xf_nx)))) (And.intro (And.intro (And.intro (@xf_rt) (@xf_bk)) (And.intro (@xf_ct) (@q_par_n))) (And.intro (And.intro (@q_par_t) (@q_par_f)) (And.intro (@xs_true) (@xs_false))))) (And.intro (And.intro (And.intro (@xn_none) (And.intro (@xn_int) (@xn_bool))) (And.intro (And.intro (@xn_str) (@xn_list)) (And.intro (@xn_tuple) (@e_xE_0)))) (And.intro (And.intro (And.intro (@e_xE_1) (@e_xE_2)) (And.intro (@e_xE_3) (@e_xE_4))) (And.intro (And.intro (@e_xE_5) (@e_xE_6)) (And.intro (@e_xE_7) (@e_xE_8)))))) (And.intro (And.intro (And.intro (And.intro (@e_xE_9) (And.intro (@e_xE_10) (@e_xE_11))) (And.intro (And.intro (@e_xE_12) (@e_xE_13)) (And.intro (@e_xE_14) (@e_xE_15)))) (And.intro (And.intro (And.intro (@e_xE_16) (@e_xE_17)) (And.intro (@e_xE_18) (@e_xE_19))) (And.intro (And.intro (@e_xE_20) (@e_xE_21)) (And.intro (@e_xE_22) (@e_xE_23))))) (And.intro (And.intro (And.intro (@e_xE_24) (And.intro (@e_xO_0) (@e_xO_1))) (And.intro (And.intro (@e_xEs_0) (@e_xEs_1)) (And.intro (@e_xA_0) (@e_xA_1)))) (And.intro (And.intro (And.intro (@e_xA_2) (@e_xI_0)) (And.intro (@e_xI_1) (@e_xI_2))) (And.intro (And.intro (@e_xI_3) (@e_xI_4)) (And.intro (@e_xS_0) (@e_xS_1))))))) := And.intro (And.intro (And.intro (And.intro (And.intro (@xg_true) (And.intro (@x1_some) (@xd_some))) (And.intro (And.intro (@xi_int) (@xz_fz)) (And.intro (@xl_ol) (@xf_nx)))) (And.intro (And.intro (And.intro (@xf_rt) (@xf_bk)) (And.intro (@xf_ct) (@q_par_n))) (And.intro (And.intro (@q_par_t) (@q_par_f)) (And.intro (@xs_true) (@xs_false))))) (And.intro (And.intro (And.intro (@xn_none) (And.intro (@xn_int) (@xn_bool))) (And.intro (And.intro (@xn_str) (@xn_list)) (And.intro (@xn_tuple) (@e_xE_0)))) (And.intro (And.intro (And.intro (@e_xE_1) (@e_xE_2)) (And.intro (@e_xE_3) (@e_xE_4))) (And.intro (And.intro (@e_xE_5) (@e_xE_6)) (And.intro (@e_xE_7) (@e_xE_8)))))) (And.intro (And.intro (And.intro (And.intro (@e_xE_9) (And.intro (@e_xE_10) (@e_xE_11))) (And.intro (And.intro (@e_xE_12) (@e_xE_13)) (And.intro (@e_xE_14) (@e_xE_15)))) (And.intro (And.intro (And.intro (@e_xE_16) (@e_xE_17)) (And.intro (@e_xE_18) (@e_xE_19))) (And.intro (And.intro (@e_xE_20) (@e_xE_21)) (And.intro (@e_xE_22) (@e_xE_23))))) (And.intro (And.intro (And.intro (@e_xE_24) (And.intro (@e_xO_0) (@e_xO_1))) (And.intro (And.intro (@e_xEs_0) (@e_xEs_1)) (And.intro (@e_xA_0) (@e_xA_1)))) (And.intro (And.intro (And.intro (@e_xA_2) (@e_xI_0)) (And.intro (@e_xI_1) (@e_xI_2))) (And.intro (And.intro (@e_xI_3) (@e_xI_4)) (And.intro (@e_xS_0) (@e_xS_1))))))
theorem wB1 : type_of% (And.intro (And.intro (And.intro (And.intro (And.intro (@e_xS_2) (And.intro (@e_xS_3) (@e_xS_4))) (And.intro (And.intro (@e_xS_5) (@e_xS_6)) (And.intro (@e_xS_7) (@e_xS_8)))) (And.intro (And.intro (And.intro (@e_xS_9) (@e_xS_10)) (And.intro (@e_xS_11) (@e_xS_12))) (And.intro (And.intro (@e_xS_13) (@e_xS_14)) (And.intro (@e_xS_15) (@e_xS_16))))) (And.intro (And.intro (And.intro (@e_xSs_0) (And.intro (@e_xSs_1) (@q_add_int))) (And.intro (And.intro (@q_sub_int) (@q_mul_int)) (And.intro (@q_fdiv_int) (@q_mod_int)))) (And.intro (And.intro (And.intro (@q_pow7) (@q_pow18)) (And.intro (@q_pow20) (@q_tru_none))) (And.intro (And.intro (@q_tru_bool) (@q_tru_int)) (And.intro (@q_tru_list) (@q_tru_tuple)))))) (And.intro (And.intro (And.intro (And.intro (@q_len_list) (And.intro (@q_len_tuple) (@q_int_int))) (And.intro (And.intro (@q_int_bool) (@q_list_list)) (And.intro (@q_list_tuple) (@q_tuple_list)))) (And.intro (And.intro (And.intro (@q_tuple_tuple) (@q_getF_0)) (And.intro (@q_getF_s) (@q_getL_0))) (And.intro (And.intro (@q_getL_s) (@q_get_0)) (And.intro (@q_get_s) (@q_optI_n))))) (And.intro (And.intro (And.intro (@q_optI_s) (And.intro (@q_items_l) (@q_listD_l))) (And.intro (And.intro (@q_d_fz) (@q_d_ol)) (And.intro (@q_d_ot) (@q_ds_n)))) (And.intro (And.intro (And.intro (@q_ds_c) (@q_outs_n)) (And.intro (@q_ty_int_none) (@q_ty_int_bool))) (And.intro (And.intro (@q_ty_int_int) (@q_ty_int_str)) (And.intro (@q_ty_int_list) (@q_ty_int_tuple))))))) := And.intro (And.intro (And.intro (And.intro (And.intro (@e_xS_2) (And.intro (@e_xS_3) (@e_xS_4))) (And.intro (And.intro (@e_xS_5) (@e_xS_6)) (And.intro (@e_xS_7) (@e_xS_8)))) (And.intro (And.intro (And.intro (@e_xS_9) (@e_xS_10)) (And.intro (@e_xS_11) (@e_xS_12))) (And.intro (And.intro (@e_xS_13) (@e_xS_14)) (And.intro (@e_xS_15) (@e_xS_16))))) (And.intro (And.intro (And.intro (@e_xSs_0) (And.intro (@e_xSs_1) (@q_add_int))) (And.intro (And.intro (@q_sub_int) (@q_mul_int)) (And.intro (@q_fdiv_int) (@q_mod_int)))) (And.intro (And.intro (And.intro (@q_pow7) (@q_pow18)) (And.intro (@q_pow20) (@q_tru_none))) (And.intro (And.intro (@q_tru_bool) (@q_tru_int)) (And.intro (@q_tru_list) (@q_tru_tuple)))))) (And.intro (And.intro (And.intro (And.intro (@q_len_list) (And.intro (@q_len_tuple) (@q_int_int))) (And.intro (And.intro (@q_int_bool) (@q_list_list)) (And.intro (@q_list_tuple) (@q_tuple_list)))) (And.intro (And.intro (And.intro (@q_tuple_tuple) (@q_getF_0)) (And.intro (@q_getF_s) (@q_getL_0))) (And.intro (And.intro (@q_getL_s) (@q_get_0)) (And.intro (@q_get_s) (@q_optI_n))))) (And.intro (And.intro (And.intro (@q_optI_s) (And.intro (@q_items_l) (@q_listD_l))) (And.intro (And.intro (@q_d_fz) (@q_d_ol)) (And.intro (@q_d_ot) (@q_ds_n)))) (And.intro (And.intro (And.intro (@q_ds_c) (@q_outs_n)) (And.intro (@q_ty_int_none) (@q_ty_int_bool))) (And.intro (And.intro (@q_ty_int_int) (@q_ty_int_str)) (And.intro (@q_ty_int_list) (@q_ty_int_tuple))))))
theorem wB2 : type_of% (And.intro (And.intro (And.intro (And.intro (And.intro (@q_ty_bool_none) (And.intro (@q_ty_bool_bool) (@q_ty_bool_int))) (And.intro (And.intro (@q_ty_bool_str) (@q_ty_bool_list)) (And.intro (@q_ty_bool_tuple) (@q_ty_str_none)))) (And.intro (And.intro (And.intro (@q_ty_str_bool) (@q_ty_str_int)) (And.intro (@q_ty_str_str) (@q_ty_str_list))) (And.intro (And.intro (@q_ty_str_tuple) (@q_ty_list_none)) (And.intro (@q_ty_list_bool) (@q_ty_list_int))))) (And.intro (And.intro (And.intro (@q_ty_list_str) (And.intro (@q_ty_list_list) (@q_ty_list_tuple))) (And.intro (And.intro (@q_ty_tuple_none) (@q_ty_tuple_bool)) (And.intro (@q_ty_tuple_int) (@q_ty_tuple_str)))) (And.intro (And.intro (And.intro (@q_ty_tuple_list) (@q_ty_tuple_tuple)) (And.intro (@q_at) (@q_gd))) (And.intro (And.intro (@q_bd) (@q_b1)) (And.intro (@q_bT_nm) (@q_bTs_n)))))) (And.intro (And.intro (And.intro (And.intro (@q_bTs_c) (And.intro (@q_res_n) (@q_res_l))) (And.intro (And.intro (@q_res_r) (@q_slo_n)) (And.intro (@q_slo_l) (@q_slo_r)))) (And.intro (And.intro (And.intro (@q_put_n) (@q_put_c)) (And.intro (@q_wip_n) (@q_wip_c))) (And.intro (And.intro (@q_wiC_n) (@q_wiC_c)) (And.intro (@q_bkE_n) (@q_bkE_c))))) (And.intro (And.intro (And.intro (@q_jn) (And.intro (@q_prm_n) (@q_prm_c))) (And.intro (And.intro (@q_fzs_n) (@q_fzs_c)) (And.intro (@q_alz_n) (@q_alz_c)))) (And.intro (And.intro (And.intro (@q_alz_l) (@q_alz_t)) (And.intro (@q_mkT) (@q_mkT_s))) (And.intro (And.intro (@q_mkT_n) (@q_out_n)) (And.intro (@q_out_c) (@q_end_r))))))) := And.intro (And.intro (And.intro (And.intro (And.intro (@q_ty_bool_none) (And.intro (@q_ty_bool_bool) (@q_ty_bool_int))) (And.intro (And.intro (@q_ty_bool_str) (@q_ty_bool_list)) (And.intro (@q_ty_bool_tuple) (@q_ty_str_none)))) (And.intro (And.intro (And.intro (@q_ty_str_bool) (@q_ty_str_int)) (And.intro (@q_ty_str_str) (@q_ty_str_list))) (And.intro (And.intro (@q_ty_str_tuple) (@q_ty_list_none)) (And.intro (@q_ty_list_bool) (@q_ty_list_int))))) (And.intro (And.intro (And.intro (@q_ty_list_str) (And.intro (@q_ty_list_list) (@q_ty_list_tuple))) (And.intro (And.intro (@q_ty_tuple_none) (@q_ty_tuple_bool)) (And.intro (@q_ty_tuple_int) (@q_ty_tuple_str)))) (And.intro (And.intro (And.intro (@q_ty_tuple_list) (@q_ty_tuple_tuple)) (And.intro (@q_at) (@q_gd))) (And.intro (And.intro (@q_bd) (@q_b1)) (And.intro (@q_bT_nm) (@q_bTs_n)))))) (And.intro (And.intro (And.intro (And.intro (@q_bTs_c) (And.intro (@q_res_n) (@q_res_l))) (And.intro (And.intro (@q_res_r) (@q_slo_n)) (And.intro (@q_slo_l) (@q_slo_r)))) (And.intro (And.intro (And.intro (@q_put_n) (@q_put_c)) (And.intro (@q_wip_n) (@q_wip_c))) (And.intro (And.intro (@q_wiC_n) (@q_wiC_c)) (And.intro (@q_bkE_n) (@q_bkE_c))))) (And.intro (And.intro (And.intro (@q_jn) (And.intro (@q_prm_n) (@q_prm_c))) (And.intro (And.intro (@q_fzs_n) (@q_fzs_c)) (And.intro (@q_alz_n) (@q_alz_c)))) (And.intro (And.intro (And.intro (@q_alz_l) (@q_alz_t)) (And.intro (@q_mkT) (@q_mkT_s))) (And.intro (And.intro (@q_mkT_n) (@q_out_n)) (And.intro (@q_out_c) (@q_end_r))))))
theorem wB3 : type_of% (And.intro (And.intro (And.intro (And.intro (And.intro (@q_end_n) (And.intro (@xnd_none) (@xnd_bool))) (And.intro (And.intro (@xnd_int) (@xnd_str)) (And.intro (@xnd_list) (@xnd_tuple)))) (And.intro (And.intro (And.intro (@q_le_0) (@q_lt_0)) (And.intro (@q_le_1) (@q_lt_1))) (And.intro (And.intro (@q_le_2) (@q_lt_2)) (And.intro (@q_le_3) (@q_lt_3))))) (And.intro (And.intro (And.intro (@q_le_4) (And.intro (@q_lt_4) (@q_le_5))) (And.intro (And.intro (@q_lt_5) (@q_le_6)) (And.intro (@q_lt_6) (@q_le_7)))) (And.intro (And.intro (And.intro (@q_lt_7) (@q_le_8)) (And.intro (@q_lt_8) (@q_le_9))) (And.intro (And.intro (@q_lt_9) (@q_le_10)) (And.intro (@q_lt_10) (@q_le_11)))))) (And.intro (And.intro (And.intro (And.intro (@q_lt_11) (And.intro (@q_le_12) (@q_lt_12))) (And.intro (And.intro (@e_xE_25) (@e_xE_26)) (And.intro (@e_xE_27) (@e_xE_28)))) (And.intro (And.intro (And.intro (@e_xE_29) (@e_xE_30)) (And.intro (@e_xE_31) (@e_xE_32))) (And.intro (And.intro (@e_xS_17) (@e_xS_18)) (And.intro (@e_xS_19) (@e_xS_20))))) (And.intro (And.intro (And.intro (@xb_bool) (And.intro (@q_add_str) (@q_frE_n))) (And.intro (And.intro (@q_frE_0) (@q_frE_s)) (And.intro (@q_immO_f) (@q_immO_l)))) (And.intro (And.intro (And.intro (@q_immO_t) (@q_immOs_n)) (And.intro (@q_immOs_c) (@q_immD_n))) (And.intro (And.intro (@q_immD_b) (@q_immD_i)) (And.intro (@q_immD_s) (@q_immD_t))))))) := And.intro (And.intro (And.intro (And.intro (And.intro (@q_end_n) (And.intro (@xnd_none) (@xnd_bool))) (And.intro (And.intro (@xnd_int) (@xnd_str)) (And.intro (@xnd_list) (@xnd_tuple)))) (And.intro (And.intro (And.intro (@q_le_0) (@q_lt_0)) (And.intro (@q_le_1) (@q_lt_1))) (And.intro (And.intro (@q_le_2) (@q_lt_2)) (And.intro (@q_le_3) (@q_lt_3))))) (And.intro (And.intro (And.intro (@q_le_4) (And.intro (@q_lt_4) (@q_le_5))) (And.intro (And.intro (@q_lt_5) (@q_le_6)) (And.intro (@q_lt_6) (@q_le_7)))) (And.intro (And.intro (And.intro (@q_lt_7) (@q_le_8)) (And.intro (@q_lt_8) (@q_le_9))) (And.intro (And.intro (@q_lt_9) (@q_le_10)) (And.intro (@q_lt_10) (@q_le_11)))))) (And.intro (And.intro (And.intro (And.intro (@q_lt_11) (And.intro (@q_le_12) (@q_lt_12))) (And.intro (And.intro (@e_xE_25) (@e_xE_26)) (And.intro (@e_xE_27) (@e_xE_28)))) (And.intro (And.intro (And.intro (@e_xE_29) (@e_xE_30)) (And.intro (@e_xE_31) (@e_xE_32))) (And.intro (And.intro (@e_xS_17) (@e_xS_18)) (And.intro (@e_xS_19) (@e_xS_20))))) (And.intro (And.intro (And.intro (@xb_bool) (And.intro (@q_add_str) (@q_frE_n))) (And.intro (And.intro (@q_frE_0) (@q_frE_s)) (And.intro (@q_immO_f) (@q_immO_l)))) (And.intro (And.intro (And.intro (@q_immO_t) (@q_immOs_n)) (And.intro (@q_immOs_c) (@q_immD_n))) (And.intro (And.intro (@q_immD_b) (@q_immD_i)) (And.intro (@q_immD_s) (@q_immD_t))))))
theorem wB4 : type_of% (And.intro (And.intro (And.intro (And.intro (And.intro (@q_immDs_n) (@q_immDs_c)) (And.intro (@q_str_int) (And.intro (@q_str_str) (@q_txt_int)))) (And.intro (And.intro (@q_txt_str) (And.intro (@q_cat_n) (@q_cat_c))) (And.intro (@q_cst_s) (And.intro (@q_cst_i) (@q_isb))))) (And.intro (And.intro (And.intro (@xr_nx) (@xr_ct)) (And.intro (@xr_bk) (And.intro (@xr_rt) (@q_lturn)))) (And.intro (And.intro (@q_l2turn) (And.intro (@q_turn) (@q_wtest))) (And.intro (@q_lc2X_n) (And.intro (@q_lc2X_c) (@q_eqb)))))) (And.intro (And.intro (And.intro (And.intro (@q_neb) (@q_eqi)) (And.intro (@q_nei) (And.intro (@q_eqn) (@q_cst_t)))) (And.intro (And.intro (@q_ca_n) (And.intro (@q_ca_i) (@q_ca_s))) (And.intro (@q_rev_l) (And.intro (@q_rev_t) (@e_xE_33))))) (And.intro (And.intro (And.intro (@e_xE_34) (And.intro (@q_listD_t) (@q_srs_1))) (And.intro (@e_xE_35) (And.intro (@e_xE_36) (@q_fnN)))) (And.intro (And.intro (@e_xE_37) (And.intro (@q_popK) (@e_xI_5))) (And.intro (@q_rpr) (And.intro (@e_xS_21) (@q_otD))))))) := And.intro (And.intro (And.intro (And.intro (And.intro (@q_immDs_n) (@q_immDs_c)) (And.intro (@q_str_int) (And.intro (@q_str_str) (@q_txt_int)))) (And.intro (And.intro (@q_txt_str) (And.intro (@q_cat_n) (@q_cat_c))) (And.intro (@q_cst_s) (And.intro (@q_cst_i) (@q_isb))))) (And.intro (And.intro (And.intro (@xr_nx) (@xr_ct)) (And.intro (@xr_bk) (And.intro (@xr_rt) (@q_lturn)))) (And.intro (And.intro (@q_l2turn) (And.intro (@q_turn) (@q_wtest))) (And.intro (@q_lc2X_n) (And.intro (@q_lc2X_c) (@q_eqb)))))) (And.intro (And.intro (And.intro (And.intro (@q_neb) (@q_eqi)) (And.intro (@q_nei) (And.intro (@q_eqn) (@q_cst_t)))) (And.intro (And.intro (@q_ca_n) (And.intro (@q_ca_i) (@q_ca_s))) (And.intro (@q_rev_l) (And.intro (@q_rev_t) (@e_xE_33))))) (And.intro (And.intro (And.intro (@e_xE_34) (And.intro (@q_listD_t) (@q_srs_1))) (And.intro (@e_xE_35) (And.intro (@e_xE_36) (@q_fnN)))) (And.intro (And.intro (@e_xE_37) (And.intro (@q_popK) (@e_xI_5))) (And.intro (@q_rpr) (And.intro (@e_xS_21) (@q_otD))))))
theorem wFor : type_of% (And.intro (@q_forX_n) (@q_forX_c)) := And.intro (@q_forX_n) (@q_forX_c)
theorem wLcY : type_of% (And.intro (@q_lcY_n) (@q_lcY_c)) := And.intro (@q_lcY_n) (@q_lcY_c)
theorem wLcX : type_of% (And.intro (@q_lcX_n) (@q_lcX_c)) := And.intro (@q_lcX_n) (@q_lcX_c)
theorem wLc2 : type_of% (And.intro (@q_lc2Y_n) (@q_lc2Y_c)) := And.intro (@q_lc2Y_n) (@q_lc2Y_c)
theorem wZip : type_of% (And.intro (@q_zip_l) (@q_zip_t)) := And.intro (@q_zip_l) (@q_zip_t)
theorem wZipM : type_of% (And.intro (@q_zip_lt) (@q_zip_tl)) := And.intro (@q_zip_lt) (@q_zip_tl)
theorem wLz : type_of% (And.intro (@q_lz) (@q_lz_t)) := And.intro (@q_lz) (@q_lz_t)
theorem wMm : type_of% (And.intro (@q_min_two) (@q_max_two)) := And.intro (@q_min_two) (@q_max_two)
theorem wCmp : type_of% (And.intro (And.intro (@q_cmp_lt) (@q_cmp_le)) (And.intro (@q_cmp_gt) (@q_cmp_ge))) := And.intro (And.intro (@q_cmp_lt) (@q_cmp_le)) (And.intro (@q_cmp_gt) (@q_cmp_ge))
theorem wSlc : type_of% (And.intro (@q_slc_list) (@q_slc_tuple)) := And.intro (@q_slc_list) (@q_slc_tuple)
theorem wIdx : type_of% (And.intro (@q_idx_list) (@q_idx_tuple)) := And.intro (@q_idx_list) (@q_idx_tuple)
end PF

namespace PFL
open PySem PF
def top (i : Nat) : Stmt := PySem.Challenge.pw_shadowruns_k40_gaps_closed_by_ways.main.body.getD i (.Pass ⟨0, 0, 0, 0⟩)
/-- lesser -/
def f0 : Fn := ⟨2, 2, [], (.cons (.iff (.orr (.isn false (.v 0)) (.isn false (.v 1))) (.cons (.ret (.ite (.isn false (.v 0)) (.v 1) (.v 0))) .nil) .nil) (.cons (.ret (.blt .min (.cons (.v 0) (.cons (.v 1) .nil)))) .nil))⟩
/-- with_spans -/
def f1 : Fn := ⟨2, 6, [], (.cons (.asg false (.nm 2) (.lc [5, 4] (.tp (.cons (.nm 5) (.cons (.nm 4) .nil))) (.zip (.v 0) (.v 1)) (.c (.bool true)) (.bin .add (.blt .list (.cons (.v 5) .nil)) (.lst (.cons (.idx (.v 4) (.c (.int 1))) .nil))))) (.cons (.asg true (.nm 3) (.lc [4] (.nm 4) (.seq (.v 1)) (.c (.bool true)) (.ite (.isn false (.idx (.v 4) (.c (.int 0)))) (.c .none) (.neg (.idx (.v 4) (.c (.int 0))))))) (.cons (.ret (.cat (.mv 2) (.lst (.cons (.bin .add (.v 3) (.lst (.cons (.c (.int 0)) .nil))) .nil)))) .nil)))⟩
/-- close -/
def f2 : Fn := ⟨1, 7, [0], (.cons (.asg true (.nm 1) (.lenO 0)) (.cons (.for_ (.nm 2) (.rng1 (.v 1)) (.cons (.for_ (.nm 3) (.rng1 (.v 1)) (.cons (.asg true (.nm 4) (.idxOO 0 (.v 3) (.v 2))) (.cons (.for_ (.nm 5) (.rng1 (.v 1)) (.cons (.asg true (.nm 6) (.idxOO 0 (.v 2) (.v 5))) (.cons (.iff (.an (.isn true (.v 4)) (.isn true (.v 6))) (.cons (.setOO 0 (.v 3) (.v 5) (.call 0 (.ev (.idxOO 0 (.v 3) (.v 5)) (.ev (.bin .add (.v 4) (.v 6)) .nil)))) .nil) .nil) .nil))) .nil))) .nil)) .nil))⟩
/-- gaps_closed -/
def f3 : Fn := ⟨2, 9, [], (.cons (.par [(3, false), (4, true)] (.cons (.call 1 (.ev (.v 0) (.ev (.v 1) .nil))) (.cons (.blt .len (.cons (.v 0) .nil)) .nil))) (.cons (.ex (.call 2 (.io 3 .nil))) (.cons (.frz 3) (.cons (.iff (.blt .any (.cons (.lc [6] (.nm 6) (.rng1 (.bin .add (.v 4) (.c (.int 1)))) (.c (.bool true)) (.cmp .lt (.idx (.idx (.v 3) (.v 6)) (.v 6)) (.c (.int 0)))) .nil)) (.cons (.ret (.c .none)) .nil) .nil) (.cons (.asg true (.nm 2) (.lc [5] (.nm 5) (.seq (.slc (.idx (.v 3) (.v 4)) .no (.ye (.v 4)))) (.c (.bool true)) (.ite (.isn false (.v 5)) (.c .none) (.neg (.v 5))))) (.cons (.ret (.tup (.cons (.blt .tuple (.cons (.lc [7] (.nm 7) (.seq (.slc (.v 3) .no (.ye (.v 4)))) (.c (.bool true)) (.blt .tuple (.cons (.slc (.v 7) .no (.ye (.v 4))) .nil))) .nil)) (.cons (.lc [8, 7] (.tp (.cons (.nm 8) (.cons (.nm 7) .nil))) (.zip (.v 2) (.v 3)) (.c (.bool true)) (.tup (.cons (.v 8) (.cons (.idx (.v 7) (.v 4)) .nil)))) .nil)))) .nil))))))⟩
/-- _law_box -/
def f4 : Fn := ⟨2, 3, [], (.cons (.asg true (.nm 2) (.ite (.cmp .lt (.v 1) (.blt .len (.cons (.v 0) .nil))) (.idx (.v 0) (.v 1)) (.c (.int 0)))) (.cons (.ret (.lst (.cons (.bin .mul (.blt .abs (.cons (.v 2) .nil)) (.blt .int (.cons (.cmp .ge (.blt .abs (.cons (.v 2) .nil)) (.bin .pow (.c (.int 10)) (.c (.int 18)))) .nil))) (.cons (.bin .add (.bin .add (.bin .mod (.v 2) (.c (.int 2305843009213693951))) (.bin .mul (.c (.int 39373)) (.v 1))) (.c (.int 71))) (.cons (.c (.int 0)) .nil))))) .nil))⟩
/-- _law_take -/
def f5 : Fn := ⟨2, 6, [0], (.cons (.iff (.cmp .gt (.idxO 0 (.c (.int 0))) (.c (.int 0))) (.cons (.asg true (.nm 4) (.bin .mod (.idxO 0 (.c (.int 0))) (.v 1))) (.cons (.setO 0 (.c (.int 0)) (.bin .fdiv (.idxO 0 (.c (.int 0))) (.v 1))) (.cons (.ret (.v 4)) .nil))) .nil) (.cons (.iff (.cmp .gt (.v 1) (.bin .pow (.c (.int 10)) (.c (.int 7)))) (.cons (.asg true (.nm 5) (.call 5 (.io 0 (.ev (.bin .pow (.c (.int 10)) (.c (.int 7))) .nil)))) (.cons (.ret (.bin .mod (.bin .add (.v 5) (.bin .mul (.bin .pow (.c (.int 10)) (.c (.int 7))) (.call 5 (.io 0 (.ev (.bin .add (.bin .fdiv (.bin .sub (.v 1) (.c (.int 1))) (.bin .pow (.c (.int 10)) (.c (.int 7)))) (.c (.int 1))) .nil))))) (.v 1))) .nil)) .nil) (.cons (.setO 0 (.c (.int 2)) (.bin .add (.idxO 0 (.c (.int 2))) (.c (.int 1)))) (.cons (.asg true (.nm 2) (.bin .mod (.bin .mul (.bin .add (.idxO 0 (.c (.int 1))) (.bin .mul (.c (.int 48271)) (.idxO 0 (.c (.int 2))))) (.bin .add (.c (.int 39373)) (.idxO 0 (.c (.int 2))))) (.c (.int 2147483647)))) (.cons (.asg true (.nm 3) (.bin .mod (.bin .mul (.bin .add (.bin .add (.v 2) (.idxO 0 (.c (.int 2)))) (.bin .fdiv (.idxO 0 (.c (.int 1))) (.c (.int 1000003)))) (.bin .add (.bin .mod (.v 2) (.c (.int 40009))) (.c (.int 7)))) (.c (.int 2147483629)))) (.cons (.ret (.bin .mod (.bin .fdiv (.bin .mod (.bin .add (.bin .mul (.v 3) (.c (.int 48271))) (.v 2)) (.c (.int 2147483587))) (.c (.int 64))) (.v 1))) .nil))))))⟩
/-- _law_cells -/
def f6 : Fn := ⟨2, 5, [], (.cons (.asg false (.nm 2) (.orr (.blt .list (.cons (.slc (.v 0) .no (.ye (.v 1))) .nil)) (.lst (.cons (.c (.int 0)) .nil)))) (.cons (.for_ (.tp (.cons (.nm 3) (.cons (.nm 4) .nil))) (.enum (.slc (.v 0) (.ye (.v 1)) (.ye (.c (.int 63))))) (.cons (.setO 2 (.bin .mod (.v 3) (.v 1)) (.bin .add (.idxO 2 (.bin .mod (.v 3) (.v 1))) (.bin .mul (.v 4) (.bin .add (.v 3) (.c (.int 2)))))) .nil)) (.cons (.ret (.mv 2)) .nil)))⟩
/-- _law_of -/
def f7 : Fn := ⟨2, 2, [0], (.cons (.ret (.idx (.v 1) (.call 5 (.io 0 (.ev (.blt .len (.cons (.v 1) .nil)) .nil))))) .nil)⟩
/-- _law_same -/
def f8 : Fn := ⟨2, 4, [], (.cons (.iff (.isi [.list, .tuple] (.v 1)) (.cons (.iff (.orr (.cmp .ne (.isi [.list] (.v 0)) (.isi [.list] (.v 1))) (.cmp .ne (.isi [.tuple] (.v 0)) (.isi [.tuple] (.v 1)))) (.cons (.ret (.c (.bool false))) .nil) .nil) (.cons (.ret (.an (.cmp .eq (.blt .len (.cons (.v 0) .nil)) (.blt .len (.cons (.v 1) .nil))) (.blt .all (.cons (.lc [2, 3] (.tp (.cons (.nm 2) (.cons (.nm 3) .nil))) (.zip (.v 0) (.v 1)) (.c (.bool true)) (.call 8 (.ev (.v 2) (.ev (.v 3) .nil)))) .nil)))) .nil)) .nil) (.cons (.iff (.orr (.isn false (.v 1)) (.isi [.bool, .str] (.v 1))) (.cons (.ret (.an (.cmp .eq (.v 0) (.v 1)) (.an (.cmp .eq (.isi [.bool] (.v 0)) (.isi [.bool] (.v 1))) (.cmp .eq (.isn false (.v 0)) (.isn false (.v 1)))))) .nil) .nil) (.cons (.ret (.an (.isi [.int] (.v 0)) (.an (.nt (.isi [.bool] (.v 0))) (.cmp .eq (.v 0) (.v 1))))) .nil)))⟩
/-- _law_limit -/
def f9 : Fn := ⟨1, 2, [0], (.cons (.asg true (.nm 1) (.lst (.cons (.c .none) (.cons (.c .none) (.cons (.bin .sub (.call 5 (.io 0 (.ev (.c (.int 9)) .nil))) (.c (.int 3))) (.cons (.bin .sub (.call 5 (.io 0 (.ev (.c (.int 9)) .nil))) (.c (.int 3))) (.cons (.c (.int 0)) (.cons (.bin .sub (.call 5 (.io 0 (.ev (.bin .pow (.c (.int 10)) (.c (.int 12))) .nil))) (.bin .pow (.c (.int 10)) (.c (.int 11)))) .nil)))))))) (.cons (.ret (.call 7 (.io 0 (.ev (.v 1) .nil)))) .nil))⟩
/-- _law_rows -/
def f10 : Fn := ⟨2, 5, [0], (.cons (.asg false (.nm 2) (.lst .nil)) (.cons (.for_ (.nm 3) (.rng1 (.v 1)) (.cons (.appO 2 (.blt .tuple (.cons (.lc [4] (.nm 4) (.rng1 (.v 1)) (.c (.bool true)) (.ite (.cmp .eq (.v 3) (.v 4)) (.c (.int 0)) (.call 9 (.io 0 .nil)))) .nil))) .nil)) (.cons (.frz 2) (.cons (.ret (.blt .tuple (.cons (.v 2) .nil))) .nil))))⟩
/-- _law_ends -/
def f11 : Fn := ⟨2, 7, [0], (.cons (.asg false (.nm 2) (.lst .nil)) (.cons (.for_ (.nm 3) (.rng1 (.v 1)) (.cons (.asg true (.nm 4) (.call 7 (.io 0 (.ev (.lst (.cons (.c .none) (.cons (.bin .sub (.call 5 (.io 0 (.ev (.c (.int 9)) .nil))) (.c (.int 4))) (.cons (.bin .sub (.call 5 (.io 0 (.ev (.c (.int 9)) .nil))) (.c (.int 4))) (.cons (.bin .pow (.c (.int 10)) (.c (.int 12))) .nil))))) .nil)))) (.cons (.asg true (.nm 5) (.call 7 (.io 0 (.ev (.lst (.cons (.c .none) (.cons (.c (.int 0)) (.cons (.call 5 (.io 0 (.ev (.c (.int 7)) .nil))) (.cons (.bin .pow (.c (.int 10)) (.c (.int 13))) .nil))))) .nil)))) (.cons (.asg true (.nm 6) (.ite (.isn false (.v 4)) (.c (.int 0)) (.v 4))) (.cons (.appO 2 (.tup (.cons (.v 4) (.cons (.ite (.isn false (.v 5)) (.c .none) (.bin .add (.v 6) (.v 5))) .nil)))) .nil))))) (.cons (.ret (.mv 2)) .nil)))⟩
/-- _law_loose -/
def f12 : Fn := ⟨1, 2, [], (.cons (.ret (.ite (.isi [.list, .tuple] (.v 0)) (.lc [1] (.nm 1) (.seq (.v 0)) (.c (.bool true)) (.call 12 (.ev (.v 1) .nil))) (.v 0))) .nil)⟩
/-- _law_zeroed -/
def f13 : Fn := ⟨2, 5, [], (.cons (.asg true (.nm 2) (.lc [3, 4] (.tp (.cons (.nm 3) (.cons (.nm 4) .nil))) (.zip (.v 0) (.v 1)) (.c (.bool true)) (.bin .add (.blt .list (.cons (.v 3) .nil)) (.lst (.cons (.idx (.v 4) (.c (.int 1))) .nil))))) (.cons (.ret (.bin .add (.v 2) (.lst (.cons (.bin .add (.lc [4] (.nm 4) (.seq (.v 1)) (.c (.bool true)) (.ite (.isn false (.idx (.v 4) (.c (.int 0)))) (.c .none) (.bin .sub (.c (.int 0)) (.idx (.v 4) (.c (.int 0)))))) (.lst (.cons (.c (.int 0)) .nil))) .nil)))) .nil))⟩
/-- _law_way -/
def f14 : Fn := ⟨4, 8, [], (.cons (.asg false (.nm 4) (.lst .nil)) (.cons (.for_ (.nm 5) (.rng1 (.blt .len (.cons (.v 0) .nil))) (.cons (.asg true (.nm 6) (.ite (.cmp .ne (.v 5) (.v 1)) (.idx (.idx (.v 0) (.v 1)) (.v 5)) (.c .none))) (.cons (.asg true (.nm 7) (.c .none)) (.cons (.iff (.an (.isn true (.v 6)) (.cmp .eq (.v 5) (.v 2))) (.cons (.asg true (.nm 7) (.c (.int 0))) .nil) (.cons (.iff (.an (.isn true (.v 6)) (.cmp .nin (.v 5) (.v 3))) (.cons (.asg true (.nm 7) (.call 14 (.ev (.v 0) (.ev (.v 5) (.ev (.v 2) (.ev (.bin .add (.v 3) (.lst (.cons (.v 5) .nil))) .nil)))))) .nil) .nil) .nil)) (.cons (.iff (.isn true (.v 7)) (.cons (.appO 4 (.bin .add (.v 6) (.v 7))) .nil) .nil) .nil))))) (.cons (.frz 4) (.cons (.ret (.ite (.cmp .ne (.v 4) (.lst .nil)) (.blt .min (.cons (.v 4) .nil)) (.c .none))) .nil))))⟩
/-- _law_closed -/
def f15 : Fn := ⟨2, 11, [], (.cons (.par [(4, true), (5, true)] (.cons (.call 13 (.ev (.v 0) (.ev (.v 1) .nil))) (.cons (.blt .len (.cons (.v 1) .nil)) .nil))) (.cons (.asg true (.nm 2) (.lc [3] (.nm 3) (.rng1 (.bin .add (.v 5) (.c (.int 1)))) (.c (.bool true)) (.call 14 (.ev (.v 4) (.ev (.v 3) (.ev (.v 3) (.ev (.lst (.cons (.v 3) .nil)) .nil))))))) (.cons (.iff (.blt .any (.cons (.lc [9] (.nm 9) (.seq (.v 2)) (.c (.bool true)) (.an (.isn true (.v 9)) (.cmp .lt (.v 9) (.c (.int 0))))) .nil)) (.cons (.ret (.c .none)) .nil) .nil) (.cons (.par [(6, false), (7, false)] (.cons (.lst .nil) (.cons (.lst .nil) .nil))) (.cons (.for_ (.nm 3) (.rng1 (.v 5)) (.cons (.appO 6 (.blt .tuple (.cons (.lc [10] (.nm 10) (.rng1 (.v 5)) (.c (.bool true)) (.ite (.cmp .eq (.v 3) (.v 10)) (.c (.int 0)) (.call 14 (.ev (.v 4) (.ev (.v 3) (.ev (.v 10) (.ev (.lst (.cons (.v 3) .nil)) .nil))))))) .nil))) (.cons (.asg true (.nm 8) (.call 14 (.ev (.v 4) (.ev (.v 5) (.ev (.v 3) (.ev (.lst (.cons (.v 5) .nil)) .nil)))))) (.cons (.appO 7 (.tup (.cons (.ite (.isn false (.v 8)) (.c .none) (.bin .sub (.c (.int 0)) (.v 8))) (.cons (.call 14 (.ev (.v 4) (.ev (.v 3) (.ev (.v 5) (.ev (.lst (.cons (.v 3) .nil)) .nil))))) .nil)))) .nil)))) (.cons (.frz 6) (.cons (.ret (.tup (.cons (.blt .tuple (.cons (.v 6) .nil)) (.cons (.mv 7) .nil)))) .nil)))))))⟩
/-- _law_right -/
def f16 : Fn := ⟨1, 10, [0], (.cons (.for_ (.nm 1) (.rng1 (.c (.int 3))) (.cons (.asg true (.nm 2) (.call 5 (.io 0 (.ev (.c (.int 5)) .nil)))) (.cons (.par [(4, true), (5, true)] (.cons (.call 10 (.io 0 (.ev (.v 2) .nil))) (.cons (.call 11 (.io 0 (.ev (.v 2) .nil))) .nil))) (.cons (.par [(6, true), (7, true)] (.cons (.call 15 (.ev (.v 4) (.ev (.v 5) .nil))) (.cons (.p1 .rpr (.lst (.cons (.v 4) (.cons (.v 5) .nil)))) .nil))) (.cons (.par [(8, true), (9, true)] (.cons (.call 12 (.ev (.v 4) .nil)) (.cons (.call 12 (.ev (.v 5) .nil)) .nil))) (.cons (.asg false (.nm 3) (.lst (.cons (.call 3 (.ev (.v 4) (.ev (.v 5) .nil))) (.cons (.callk 3 (.cons (.blt .tuple (.cons (.v 9) .nil)) (.cons (.v 8) .nil)) [1, 0]) .nil)))) (.cons (.iff (.orr (.nt (.bor (.call 8 (.ev (.v 3) (.ev (.lst (.cons (.v 6) (.cons (.v 6) .nil))) .nil))))) (.cmp .ne (.p1 .rpr (.lst (.cons (.v 4) (.cons (.v 5) .nil)))) (.v 7))) (.cons (.ret (.c (.bool false))) .nil) .nil) (.cons (.iff (.isn true (.v 6)) (.cons (.appOT 3 (.c (.int 0)) (.c (.int 1)) (.c (.str "more"))) .nil) .nil) (.cons (.iff (.orr (.nt (.call 8 (.ev (.call 3 (.ev (.v 4) (.ev (.v 5) .nil))) (.ev (.v 6) .nil)))) (.cmp .ne (.lst (.cons (.v 8) (.cons (.v 9) .nil))) (.call 12 (.ev (.lst (.cons (.v 4) (.cons (.v 5) .nil))) .nil)))) (.cons (.ret (.c (.bool false))) .nil) .nil) .nil))))))))) (.cons (.ret (.call 8 (.ev (.call 3 (.ev (.tup .nil) (.ev (.lst .nil) .nil))) (.ev (.tup (.cons (.tup .nil) (.cons (.lst .nil) .nil))) .nil)))) .nil))⟩
/-- law -/
def f17 : Fn := ⟨1, 3, [], (.cons (.asg true (.nm 1) (.call 6 (.ev (.v 0) (.ev (.c (.int 3)) .nil)))) (.cons (.ret (.blt .all (.cons (.lc [2] (.nm 2) (.rng1 (.blt .len (.cons (.v 1) .nil))) (.c (.bool true)) (.callt 16 (.call 4 (.ev (.v 1) (.ev (.v 2) .nil))))) .nil))) .nil))⟩
def fns : List Fn := [f0, f1, f2, f3, f4, f5, f6, f7, f8, f9, f10, f11, f12, f13, f14, f15, f16, f17]
def Ns : List (List Str) := [(["one", "other"] : List Str),
  (["gaps", "spans", "table", "lows", "span", "row"] : List Str),
  (["table", "size", "between", "i", "first", "j", "second"] : List Str),
  (["gaps", "spans", "lows", "table", "k", "bound", "i", "row", "low"] : List Str),
  (["_law_script", "_law_k", "_law_cell"] : List Str),
  (["_law_box_here", "_law_below", "_law_once", "_law_twice", "_law_found", "_law_little"] : List Str),
  (["_law_script", "_law_most", "_law_cells_here", "_law_k", "_law_cell"] : List Str),
  (["_law_box_here", "_law_some"] : List Str),
  (["_law_found", "_law_due", "_law_mine", "_law_its"] : List Str),
  (["_law_box_here", "_law_some"] : List Str),
  (["_law_box_here", "_law_size", "_law_found", "_law_at", "_law_to"] : List Str),
  (["_law_box_here", "_law_size", "_law_found", "_law_turn", "_law_least", "_law_wide", "_law_base"] : List Str),
  (["_law_matter", "_law_part"] : List Str),
  (["_law_rows_here", "_law_pairs_so", "_law_table", "_law_row", "_law_end"] : List Str),
  (["_law_table", "_law_here", "_law_goal", "_law_seen_so", "_law_sums", "_law_later", "_law_step", "_law_rest"] : List Str),
  (["_law_rows_here", "_law_pairs_so", "_law_rings", "_law_at", "_law_table", "_law_size", "_law_made", "_law_pairs", "_law_least", "_law_ring", "_law_to"] : List Str),
  (["_law_box_here", "_law_turn", "_law_size", "_law_told", "_law_rows_here", "_law_pairs_so", "_law_due", "_law_was", "_law_loose_here", "_law_pairs"] : List Str),
  (["_law_script", "_law_cells_here", "_law_k"] : List Str)]
def sts : List Stmt := [top 1, top 2, top 3, top 4, top 6, top 7, top 8, top 9, top 10, top 11, top 12, top 13, top 14, top 15, top 16, top 17, top 18, top 19]
def kws : List (Nat × List Str × List Nat) := [(3, ["spans", "gaps"], [1, 0])]
def cs : List (Str × Cst) := []
def txt : Txt := ⟨sts, fns, Ns, kws, cs⟩
theorem bind : AllB sts :=
  ⟨fun _ _ _ _ _ _ us hl => match us, hl with | [_, _], _ => rfl,
  ⟨fun _ _ _ _ _ _ us hl => match us, hl with | [_, _], _ => rfl,
  ⟨fun _ _ _ _ _ _ us hl => match us, hl with | [_], _ => rfl,
  ⟨fun _ _ _ _ _ _ us hl => match us, hl with | [_, _], _ => rfl,
  ⟨fun _ _ _ _ _ _ us hl => match us, hl with | [_, _], _ => rfl,
  ⟨fun _ _ _ _ _ _ us hl => match us, hl with | [_, _], _ => rfl,
  ⟨fun _ _ _ _ _ _ us hl => match us, hl with | [_, _], _ => rfl,
  ⟨fun _ _ _ _ _ _ us hl => match us, hl with | [_, _], _ => rfl,
  ⟨fun _ _ _ _ _ _ us hl => match us, hl with | [_, _], _ => rfl,
  ⟨fun _ _ _ _ _ _ us hl => match us, hl with | [_], _ => rfl,
  ⟨fun _ _ _ _ _ _ us hl => match us, hl with | [_, _], _ => rfl,
  ⟨fun _ _ _ _ _ _ us hl => match us, hl with | [_, _], _ => rfl,
  ⟨fun _ _ _ _ _ _ us hl => match us, hl with | [_], _ => rfl,
  ⟨fun _ _ _ _ _ _ us hl => match us, hl with | [_, _], _ => rfl,
  ⟨fun _ _ _ _ _ _ us hl => match us, hl with | [_, _, _, _], _ => rfl,
  ⟨fun _ _ _ _ _ _ us hl => match us, hl with | [_, _], _ => rfl,
  ⟨fun _ _ _ _ _ _ us hl => match us, hl with | [_], _ => rfl,
  ⟨fun _ _ _ _ _ _ us hl => match us, hl with | [_], _ => rfl,
  trivial⟩⟩⟩⟩⟩⟩⟩⟩⟩⟩⟩⟩⟩⟩⟩⟩⟩⟩
theorem kwok : AllK sts kws :=
  ⟨fun _ e => by cases e; exact fun _ _ _ _ _ _ ws hl => match ws, hl with | _ :: _ :: _, _ => rfl,
  trivial⟩
def lawIx : Nat := 17
def loose0 : List Str := ["lesser", "with_spans", "close", "gaps_closed", "_law_box", "_law_take", "_law_cells", "_law_of", "_law_same", "_law_limit", "_law_rows", "_law_ends", "_law_loose", "_law_zeroed", "_law_way", "_law_closed", "_law_right"]
def loose : List Str := loose0
abbrev R : PySem.W.OpenRow := PySem.W.OpenLaw.row PySem.Challenge.rw_shadowruns_k40_gaps_closed_by_ways
abbrev hk : PySem.W.Hook := hookE 4 (faOf sts cs) (fnsOf sts) cs
def ob (s : PySem.W.SharedT) : AlE := obsE 4 (faOf sts cs) (fnsOf sts) cs (HandSHeadRun.getT s)
theorem ob_eq (s : PySem.W.SharedT) : ob s = hk.obs s.abs := obsE_eq (HandSHeadRun.getT_eq s)
theorem run (w : World) : HandSHeadRun.RunEq R (PySem.W.view R.prog [19]) hk ob 2000 loose w := by
  intro os
  kernel_rfl
theorem chk : txt.chk = true := by decide +kernel
end PFL

/-! PF: loops and comprehensions over lists (the same as in PGapb and PGapt, without gaps). -/
namespace PF
open PySem
theorem lcX_pairs {C : Ctx} {own : List Nat} {tg : T} {cnd elt : E} {ρ0 : Env} : ∀ (l : List (D × OV)) (ρ : Env), wipC ρ own = wipC ρ0 own → (∀ p ∈ l, ∃ ρ'', lturn C own tg cnd elt p.1 ρ0 = some ([p.2], ρ'') ∧ wipC ρ'' own = wipC ρ0 own) →
    ∃ ρ', lcX C own tg cnd elt (l.map (·.1)) ρ = some (l.map (·.2), ρ') ∧ wipC ρ' own = wipC ρ0 own
  | [], ρ, h, _ => ⟨ρ, rfl, h⟩
  | p :: l, ρ, h, k => by
    obtain ⟨ρ1, e1, h1⟩ := k p List.mem_cons_self
    obtain ⟨ρ2, e2, h2⟩ := lcX_pairs l ρ1 h1 fun q hq => k q (List.mem_cons_of_mem _ hq)
    refine ⟨ρ2, ?_, h2⟩
    rw [List.map_cons, q_lcX_c, lturn_wip h, e1, xd_some, e2]
    rfl
/-- a comprehension over things that are told by their places -/
theorem lcY_ix {C : Ctx} {own : List Nat} {tg : T} {cnd elt : E} {ρ : Env} {k : Nat} (hk : k < SZ) (h : Nat → D) (f : Nat → OV) (H : ∀ i < k, ∃ ρ'', lturn C own tg cnd elt (h i) ρ = some ([f i], ρ'') ∧ wipC ρ'' own = wipC ρ own) :
    lcY C own tg cnd elt ((List.range k).map h) ρ = some (.ol ((List.range k).map f), ρ) := by
  obtain ⟨ρ', e, hw⟩ := lcX_pairs (C := C) (own := own) (tg := tg) (cnd := cnd) (elt := elt) (ρ0 := ρ) ((List.range k).map fun i => (h i, f i)) ρ rfl (fun p hp => by
    obtain ⟨i, hi, rfl⟩ := List.mem_map.mp hp
    exact H i (List.mem_range.mp hi))
  rw [List.map_map, List.map_map] at e
  have e : lcX C own tg cnd elt ((List.range k).map h) ρ = some ((List.range k).map f, ρ') := e
  unfold lcY
  rw [e]
  show gd (decide _) (some (OV.ol _, backE ρ ρ' own)) = _
  rw [decide_eq_true (by rw [List.length_map, List.length_range]; exact hk), bxE_wip hw]
  rfl
theorem forX_l {α : Type} {C : Ctx} {t : T} {b : Ss} (L : List α) (h : α → D) (P : List α → Env → Prop) (hs : ∀ pre a post, L = pre ++ a :: post → ∀ ρ, P pre ρ → ∃ ρ', P (pre ++ [a]) ρ' ∧ turn C t b (h a) ρ = some (.nx ρ')) {ρ : Env} (h0 : P [] ρ) : ∃ ρ', P L ρ' ∧ forX C t b (L.map h) ρ = some (.nx ρ') := by
  have key : ∀ (post pre : List α) (ρ : Env), L = pre ++ post → P pre ρ → ∃ ρ', P L ρ' ∧ forX C t b (post.map h) ρ = some (.nx ρ') := by
    intro post
    induction post with
    | nil =>
      intro pre ρ e p
      rw [List.append_nil] at e
      subst e
      exact ⟨ρ, p, rfl⟩
    | cons a post ih =>
      intro pre ρ e p
      obtain ⟨ρ1, p1, e1⟩ := hs pre a post e ρ p
      obtain ⟨ρ2, p2, e2⟩ := ih (pre ++ [a]) ρ1 (by rw [e, List.append_assoc]; rfl) p1
      refine ⟨ρ2, p2, ?_⟩
      rw [List.map_cons, q_forX_c, e1, x1_some, xr_nx]
      exact e2
  exact key L [] ρ rfl h0
theorem forX_ix {C : Ctx} {t : T} {b : Ss} {n : Nat} (h : Nat → D) (P : Nat → Env → Prop) (hs : ∀ i < n, ∀ ρ, P i ρ → ∃ ρ', P (i + 1) ρ' ∧ turn C t b (h i) ρ = some (.nx ρ')) {ρ : Env} (h0 : P 0 ρ) : ∃ ρ', P n ρ' ∧ forX C t b ((List.range n).map h) ρ = some (.nx ρ') := by
  have key : ∀ (k j : Nat) (ρ : Env), j + k = n → P j ρ → ∃ ρ', P n ρ' ∧ forX C t b ((List.range' j k).map h) ρ = some (.nx ρ') := by
    intro k
    induction k with
    | zero =>
      intro j ρ e p
      have : j = n := by omega
      subst this
      exact ⟨ρ, p, rfl⟩
    | succ k ih =>
      intro j ρ e p
      obtain ⟨ρ1, h1, e1⟩ := hs j (by omega) ρ p
      obtain ⟨ρ2, h2, e2⟩ := ih (j + 1) ρ1 (by omega) h1
      refine ⟨ρ2, h2, ?_⟩
      rw [List.range'_succ, List.map_cons, q_forX_c, e1, x1_some, xr_nx]
      exact e2
  rw [List.range_eq_range']
  exact key n 0 ρ (by omega) h0
/-- a loop that returns o at the first turn whose test fails -/
theorem forX_test {α : Type} {C : Ctx} {t : T} {b : Ss} {o : OV} (P : Env → Prop) (h : α → D) (p : α → Bool) : ∀ (L : List α), (∀ a ∈ L, ∀ ρ, P ρ → (p a = true → ∃ ρ', P ρ' ∧ turn C t b (h a) ρ = some (.nx ρ')) ∧ (p a = false → ∃ ρ', turn C t b (h a) ρ = some (.rt o ρ'))) → ∀ ρ, P ρ →
    (L.all p = true → ∃ ρ', P ρ' ∧ forX C t b (L.map h) ρ = some (.nx ρ')) ∧ (L.all p = false → ∃ ρ', forX C t b (L.map h) ρ = some (.rt o ρ'))
  | [], _, ρ, hp => ⟨(fun _ => ⟨ρ, hp, rfl⟩), (fun z => absurd z.symm Bool.false_ne_true)⟩
  | a :: L, hs, ρ, hp => by
    obtain ⟨h1, h2⟩ := hs a List.mem_cons_self ρ hp
    rw [List.all_cons]
    cases e : p a with
    | true =>
      obtain ⟨ρ1, p1, e1⟩ := h1 e
      obtain ⟨k1, k2⟩ := forX_test P h p L (fun b hb => hs b (List.mem_cons_of_mem _ hb)) ρ1 p1
      rw [Bool.true_and, List.map_cons, q_forX_c, e1, x1_some, xr_nx]
      exact ⟨k1, k2⟩
    | false =>
      obtain ⟨ρ1, e1⟩ := h2 e
      rw [Bool.false_and, List.map_cons, q_forX_c, e1, x1_some, xr_rt]
      exact ⟨(fun z => absurd z Bool.false_ne_true), (fun _ => ⟨ρ1, rfl⟩)⟩
theorem lcY_l {α : Type} {C : Ctx} {own : List Nat} {tg : T} {cnd elt : E} {ρ : Env} (L : List α) (hk : L.length < SZ) (h : α → D) (f : α → OV) (H : ∀ a ∈ L, ∃ ρ'', lturn C own tg cnd elt (h a) ρ = some ([f a], ρ'') ∧ wipC ρ'' own = wipC ρ own) :
    lcY C own tg cnd elt (L.map h) ρ = some (.ol (L.map f), ρ) := by
  obtain ⟨ρ', e, hw⟩ := lcX_pairs (C := C) (own := own) (tg := tg) (cnd := cnd) (elt := elt) (ρ0 := ρ) (L.map fun a => (h a, f a)) ρ rfl (fun p hp => by
    obtain ⟨a, ha, rfl⟩ := List.mem_map.mp hp
    exact H a ha)
  rw [List.map_map, List.map_map] at e
  have e : lcX C own tg cnd elt (L.map h) ρ = some (L.map f, ρ') := e
  unfold lcY
  rw [e]
  show gd (decide _) (some (OV.ol _, backE ρ ρ' own)) = _
  rw [decide_eq_true (by rw [List.length_map]; exact hk), bxE_wip hw]
  rfl
/-- a comprehension that keeps some -/
theorem lcY_some {α : Type} {C : Ctx} {own : List Nat} {tg : T} {cnd elt : E} {ρ : Env} (L : List α) (hk : L.length < SZ) (h : α → D) (f : α → OV) (p : α → Bool) (H : ∀ a ∈ L, ∃ ρ'', lturn C own tg cnd elt (h a) ρ = some (if p a then [f a] else [], ρ'') ∧ wipC ρ'' own = wipC ρ own) :
    lcY C own tg cnd elt (L.map h) ρ = some (.ol ((L.filter p).map f), ρ) := by
  have key : ∀ (L : List α) (ρ1 : Env), wipC ρ1 own = wipC ρ own → (∀ a ∈ L, ∃ ρ'', lturn C own tg cnd elt (h a) ρ = some (if p a then [f a] else [], ρ'') ∧ wipC ρ'' own = wipC ρ own) → ∃ ρ', lcX C own tg cnd elt (L.map h) ρ1 = some ((L.filter p).map f, ρ') ∧ wipC ρ' own = wipC ρ own := by
    intro L
    induction L with
    | nil => exact fun ρ1 h1 _ => ⟨ρ1, rfl, h1⟩
    | cons a L ih =>
      intro ρ1 h1 H
      obtain ⟨ρ2, e2, h2⟩ := H a List.mem_cons_self
      obtain ⟨ρ3, e3, h3⟩ := ih ρ2 h2 fun b hb => H b (List.mem_cons_of_mem _ hb)
      refine ⟨ρ3, ?_, h3⟩
      rw [List.map_cons, q_lcX_c, lturn_wip h1, e2, xd_some, e3, List.filter_cons]
      cases p a <;> rfl
  obtain ⟨ρ', e, hw⟩ := key L ρ rfl H
  unfold lcY
  rw [e]
  show gd (decide _) (some (OV.ol _, backE ρ ρ' own)) = _
  rw [decide_eq_true (by rw [List.length_map]; exact Nat.lt_of_le_of_lt (List.length_filter_le ..) hk), bxE_wip hw]
  rfl
end PF

/-! Differences of variables, closed: in plain words. -/
namespace MG
abbrev Mx := Nat → Nat → Option Int
def les : Option Int → Option Int → Option Int
  | none, y => y
  | some x, none => some x
  | some x, some y => some (if y < x then y else x)
def adO : Option Int → Option Int → Option Int
  | some x, some y => some (x + y)
  | _, _ => none
/-- none is the greatest -/
def Le (x y : Option Int) : Prop := ∀ b, y = some b → ∃ a, x = some a ∧ a ≤ b
theorem Le.refl (x : Option Int) : Le x x := fun b h => ⟨b, h, Int.le_refl _⟩
theorem Le.trans {x y z : Option Int} (h : Le x y) (g : Le y z) : Le x z := fun b e => by
  obtain ⟨a, ha, l⟩ := g b e
  obtain ⟨c, hc, m⟩ := h a ha
  exact ⟨c, hc, by omega⟩
theorem Le.antisymm {x y : Option Int} (h : Le x y) (g : Le y x) : x = y := by
  cases x with
  | none =>
    cases y with
    | none => rfl
    | some b => obtain ⟨a, e, _⟩ := h b rfl; cases e
  | some a =>
    cases y with
    | none => obtain ⟨b, e, _⟩ := g a rfl; cases e
    | some b =>
      obtain ⟨c, e, l⟩ := h b rfl
      obtain ⟨d, f, m⟩ := g a rfl
      cases e; cases f
      exact congrArg some (by omega)
theorem Le.none (x : Option Int) : Le x none := fun b h => by cases h
theorem les_l (x y : Option Int) : Le (les x y) x := by
  intro b h
  subst h
  cases y with
  | none => exact ⟨b, rfl, Int.le_refl _⟩
  | some y =>
    refine ⟨_, rfl, ?_⟩
    split <;> omega
theorem les_r (x y : Option Int) : Le (les x y) y := by
  intro b h
  subst h
  cases x with
  | none => exact ⟨b, rfl, Int.le_refl _⟩
  | some y =>
    refine ⟨_, rfl, ?_⟩
    split <;> omega
theorem les_or (x y : Option Int) : les x y = x ∨ les x y = y := by
  cases x with
  | none => exact .inr rfl
  | some x =>
    cases y with
    | none => exact .inl rfl
    | some y =>
      show some _ = _ ∨ some _ = _
      split
      · exact .inr rfl
      · exact .inl rfl
theorem les_none (x : Option Int) : les x none = x := by cases x <;> rfl
theorem les_of_le {x y : Option Int} (h : Le x y) : les x y = x := by
  rcases les_or x y with e | e
  · exact e
  · exact Le.antisymm (les_l x y) (by rw [e]; exact h)
theorem adO_mono {a b c d : Option Int} (h : Le a b) (g : Le c d) : Le (adO a c) (adO b d) := by
  intro z e
  cases b with
  | none => cases e
  | some b =>
    cases d with
    | none => cases e
    | some d =>
      obtain ⟨x, rfl, l⟩ := h b rfl
      obtain ⟨y, rfl, m⟩ := g d rfl
      have e : b + d = z := Option.some.inj e
      exact ⟨x + y, rfl, by omega⟩
theorem adO_assoc (a b c : Option Int) : adO (adO a b) c = adO a (adO b c) := by
  cases a <;> cases b <;> cases c <;> try rfl
  exact congrArg some (Int.add_assoc ..)
theorem adO_comm (a b : Option Int) : adO a b = adO b a := by
  cases a <;> cases b <;> try rfl
  exact congrArg some (Int.add_comm ..)
/-- at least 0, or no bound -/
def Nn (x : Option Int) : Prop := ∀ a, x = some a → 0 ≤ a
theorem Nn.up {x y : Option Int} (h : Nn x) (l : Le x y) : Nn y := fun b e => by
  obtain ⟨a, ha, m⟩ := l b e
  have := h a ha
  omega
theorem le_ad {x y : Option Int} (h : Nn x) : Le y (adO x y) := by
  intro b e
  cases x with
  | none => cases e
  | some x =>
    cases y with
    | none => cases e
    | some y =>
      have e : x + y = b := Option.some.inj e
      have := h x rfl
      exact ⟨y, rfl, by omega⟩
def stI (b i : Nat) (M : Mx) : Mx := fun r c => if r = i then les (M i c) (adO (M i b) (M b c)) else M r c
def stB (b : Nat) (M : Mx) : Nat → Mx
  | 0 => M
  | i + 1 => stI b i (stB b M i)
def clo (n : Nat) (M : Mx) : Nat → Mx
  | 0 => M
  | b + 1 => stB b (clo n M b) n
theorem stI_le (b i : Nat) (M : Mx) (r c : Nat) : Le (stI b i M r c) (M r c) := by
  unfold stI
  split
  · rename_i h; rw [h]; exact les_l _ _
  · exact Le.refl _
theorem stB_le (b : Nat) (M : Mx) : ∀ (i r c : Nat), Le (stB b M i r c) (M r c)
  | 0, r, c => Le.refl _
  | i + 1, r, c => (stI_le b i _ r c).trans (stB_le b M i r c)
theorem clo_le (n : Nat) (M : Mx) : ∀ (b r c : Nat), Le (clo n M b r c) (M r c)
  | 0, r, c => Le.refl _
  | b + 1, r, c => (stB_le b _ n r c).trans (clo_le n M b r c)
theorem clo_le' (n : Nat) (M : Mx) : ∀ (d b r c : Nat), Le (clo n M (b + d) r c) (clo n M b r c)
  | 0, b, r, c => Le.refl _
  | d + 1, b, r, c => (stB_le (b + d) _ n r c).trans (clo_le' n M d b r c)
/-- numbers that keep all bounds -/
def Sat (n : Nat) (M : Mx) (x : Nat → Int) : Prop := ∀ i < n, ∀ j < n, ∀ c, M i j = some c → x i - x j ≤ c
theorem Sat.le {n : Nat} {M N : Mx} {x : Nat → Int} (h : Sat n M x) (l : ∀ i < n, ∀ j < n, Le (M i j) (N i j)) : Sat n N x := fun i hi j hj c e => by
  obtain ⟨a, ha, m⟩ := l i hi j hj c e
  have := h i hi j hj a ha
  omega
theorem Sat.stI {n b i : Nat} {M : Mx} {x : Nat → Int} (h : Sat n M x) (hb : b < n) (hi : i < n) : Sat n (stI b i M) x := by
  intro r hr c hc z e
  unfold MG.stI at e
  split at e
  · rename_i hri
    rcases les_or (M i c) (adO (M i b) (M b c)) with q | q
    · rw [q] at e
      rw [hri]
      exact h i hi c hc z e
    · rw [q] at e
      cases h1 : M i b with
      | none => rw [h1] at e; cases e
      | some p =>
        cases h2 : M b c with
        | none => rw [h1, h2] at e; cases e
        | some q =>
          rw [h1, h2] at e
          have e : p + q = z := Option.some.inj e
          have a := h i hi b hb p h1
          have b := h b hb c hc q h2
          rw [hri]
          omega
  · exact h r hr c hc z e
theorem Sat.stB {n b : Nat} {M : Mx} {x : Nat → Int} (h : Sat n M x) (hb : b < n) : ∀ i, i ≤ n → Sat n (stB b M i) x
  | 0, _ => h
  | i + 1, hi => Sat.stI (Sat.stB h hb i (by omega)) hb (by omega)
theorem Sat.clo {n : Nat} {M : Mx} {x : Nat → Int} (h : Sat n M x) : ∀ b, b ≤ n → Sat n (clo n M b) x
  | 0, _ => h
  | b + 1, hb => Sat.stB (Sat.clo h b (by omega)) (by omega) n (Nat.le_refl _)
theorem Sat.iff {n : Nat} {M : Mx} {x : Nat → Int} : Sat n (MG.clo n M n) x ↔ Sat n M x :=
  ⟨fun h => h.le fun i _ j _ => clo_le n M n i j, fun h => h.clo n (Nat.le_refl _)⟩
/-- a round, where no ring through b is below 0 -/
theorem stB_eq {b : Nat} {M : Mx} (h : Nn (M b b)) : ∀ (i r c : Nat), stB b M i r c = if r < i then les (M r c) (adO (M r b) (M b c)) else M r c
  | 0, r, c => by rw [if_neg (by omega)]; rfl
  | i + 1, r, c => by
    have ih := stB_eq h i
    have rb : ∀ c, stB b M i b c = M b c := fun c => by
      rw [ih]
      split
      · exact les_of_le (le_ad h)
      · rfl
    show (if r = i then les (stB b M i i c) (adO (stB b M i i b) (stB b M i b c)) else stB b M i r c) = _
    by_cases hr : r = i
    · subst hr
      rw [if_pos rfl, if_pos (by omega), rb, ih, ih, if_neg (by omega), if_neg (by omega)]
    · rw [if_neg hr, ih]
      by_cases hl : r < i
      · rw [if_pos hl, if_pos (by omega)]
      · rw [if_neg hl, if_neg (by omega)]
/-- closed through all c below k -/
def Cl (n k : Nat) (M : Mx) : Prop := ∀ c < k, ∀ i < n, ∀ j < n, Le (M i j) (adO (M i c) (M c j))
theorem Cl.round {n b : Nat} {M : Mx} (h : Cl n b M) (hb : b < n) (hd : Nn (M b b)) : Cl n (b + 1) (MG.stB b M n) := by
  have rb : ∀ c, les (M b c) (adO (M b b) (M b c)) = M b c := fun c => les_of_le (le_ad hd)
  have cb : ∀ r, les (M r b) (adO (M r b) (M b b)) = M r b := fun r => les_of_le (by rw [adO_comm]; exact le_ad hd)
  intro c hc i hi j hj
  rw [stB_eq hd, stB_eq hd, stB_eq hd, if_pos hi, if_pos hi, if_pos (by omega)]
  by_cases e : c = b
  · subst e
    rw [cb, rb]
    exact les_r _ _
  · have hc : c < b := by omega
    rcases les_or (M i c) (adO (M i b) (M b c)) with e1 | e1 <;> rcases les_or (M c j) (adO (M c b) (M b j)) with e2 | e2 <;> rw [e1, e2]
    · exact (les_l _ _).trans (h c hc i hi j hj)
    · refine (les_r _ _).trans ?_
      rw [← adO_assoc]
      exact adO_mono (h c hc i hi b hb) (Le.refl _)
    · refine (les_r _ _).trans ?_
      rw [adO_assoc]
      exact adO_mono (Le.refl _) (h c hc b hb j hj)
    · refine (les_r _ _).trans ?_
      rw [adO_assoc, ← adO_assoc (M b c)]
      refine adO_mono (Le.refl _) (le_ad ?_)
      exact hd.up (h c hc b hb b hb)
theorem clo_cl {n : Nat} {M : Mx} (hd : ∀ i < n, Nn (clo n M n i i)) : ∀ b, b ≤ n → Cl n b (clo n M b)
  | 0, _ => fun c hc => absurd hc (Nat.not_lt_zero _)
  | b + 1, hb => by
    have e : clo n M n = clo n M (b + (n - b)) := by rw [show b + (n - b) = n by omega]
    exact Cl.round (clo_cl hd b (by omega)) (by omega) ((hd b (by omega)).up (by rw [e]; exact clo_le' n M (n - b) b b b))
/-- closed: what is left is the least -/
theorem closed {n : Nat} {M : Mx} (hd : ∀ i < n, Nn (clo n M n i i)) {i j c : Nat} (hi : i < n) (hj : j < n) (hc : c < n) : Le (clo n M n i j) (adO (clo n M n i c) (clo n M n c j)) :=
  clo_cl hd n (Nat.le_refl _) c hc i hi j hj
theorem diag0 {n : Nat} {M : Mx} (hd : ∀ i < n, Nn (clo n M n i i)) (h0 : ∀ i < n, M i i = some 0) {i : Nat} (hi : i < n) : clo n M n i i = some 0 := by
  obtain ⟨a, ha, l⟩ := clo_le n M n i i 0 (h0 i hi)
  have := hd i hi a ha
  rw [ha]
  exact congrArg some (by omega)
/-- each bound is reached, where all are there -/
theorem reach {n : Nat} {M : Mx} (hd : ∀ i < n, Nn (clo n M n i i)) (h0 : ∀ i < n, M i i = some 0) {i j : Nat} (hi : i < n) (hj : j < n) {f : Nat → Int} (hf : ∀ v < n, clo n M n v j = some (f v)) : Sat n (clo n M n) f ∧ clo n M n i j = some (f i - f j) := by
  constructor
  · intro u hu v hv c e
    have := closed hd hu hj hv
    rw [e, hf v hv] at this
    obtain ⟨a, ha, l⟩ := this (c + f v) rfl
    rw [hf u hu] at ha
    cases ha
    omega
  · have e := hf j hj
    rw [diag0 hd h0 hj] at e
    have e : (0 : Int) = f j := Option.some.inj e
    rw [hf i hi, ← e, Int.sub_zero]
theorem none_of {n : Nat} {M : Mx} {i : Nat} (hi : i < n) {c : Int} (h : clo n M n i i = some c) (hc : c < 0) {x : Nat → Int} : ¬ Sat n M x := by
  intro s
  have := (Sat.iff.mpr s) i hi i hi c h
  omega
end MG

/-! Differences closed in another order, and with other reads: in plain words. -/
namespace MG
theorem least_I {n b i : Nat} {M N : Mx} (hN : ∀ i < n, ∀ j < n, ∀ c < n, Le (N i j) (adO (N i c) (N c j))) (hl : ∀ i < n, ∀ j < n, Le (N i j) (M i j)) (hb : b < n) : ∀ r < n, ∀ c < n, Le (N r c) (stI b i M r c) := by
  intro r hr c hc
  unfold stI
  split
  · rename_i h
    subst h
    rcases les_or (M r c) (adO (M r b) (M b c)) with e | e
    · rw [e]; exact hl r hr c hc
    · rw [e]; exact (hN r hr c hc b hb).trans (adO_mono (hl r hr b hb) (hl b hb c hc))
  · exact hl r hr c hc
theorem least_B {n b : Nat} {M N : Mx} (hN : ∀ i < n, ∀ j < n, ∀ c < n, Le (N i j) (adO (N i c) (N c j))) (hl : ∀ i < n, ∀ j < n, Le (N i j) (M i j)) (hb : b < n) : ∀ i, ∀ r < n, ∀ c < n, Le (N r c) (stB b M i r c)
  | 0 => hl
  | i + 1 => least_I hN (least_B hN hl hb i) hb
/-- nothing that is closed lies between -/
theorem clo_least {n : Nat} {M N : Mx} (hN : ∀ i < n, ∀ j < n, ∀ c < n, Le (N i j) (adO (N i c) (N c j))) (hl : ∀ i < n, ∀ j < n, Le (N i j) (M i j)) : ∀ b ≤ n, ∀ r < n, ∀ c < n, Le (N r c) (clo n M b r c)
  | 0, _ => hl
  | b + 1, hb => least_B hN (clo_least hN hl b (by omega)) (by omega) n
theorem clo_perm {n : Nat} {M M' : Mx} {p q : Nat → Nat} (hp : ∀ i < n, p i < n) (hq : ∀ i < n, q i < n) (pq : ∀ i < n, p (q i) = i) (qp : ∀ i < n, q (p i) = i) (hM : ∀ i < n, ∀ j < n, M' i j = M (p i) (p j)) (hd : ∀ i < n, Nn (clo n M n i i)) :
    ∀ i < n, ∀ j < n, clo n M' n i j = clo n M n (p i) (p j) := by
  have h1 : ∀ i < n, ∀ j < n, Le (clo n M n (p i) (p j)) (clo n M' n i j) := clo_least (N := fun i j => clo n M n (p i) (p j)) (fun i hi j hj c hc => closed hd (hp i hi) (hp j hj) (hp c hc)) (fun i hi j hj => by rw [hM i hi j hj]; exact clo_le n M n _ _) n (Nat.le_refl _)
  have hd' : ∀ i < n, Nn (clo n M' n i i) := fun i hi => (hd _ (hp i hi)).up (h1 i hi i hi)
  have h2 : ∀ i < n, ∀ j < n, Le (clo n M' n (q i) (q j)) (clo n M n i j) := clo_least (N := fun i j => clo n M' n (q i) (q j)) (fun i hi j hj c hc => closed hd' (hq i hi) (hq j hj) (hq c hc)) (fun i hi j hj => by
    have := clo_le n M' n (q i) (q j)
    rw [hM _ (hq i hi) _ (hq j hj), pq i hi, pq j hj] at this
    exact this) n (Nat.le_refl _)
  intro i hi j hj
  have a := h2 (p i) (hp i hi) (p j) (hp j hj)
  rw [qp i hi, qp j hj] at a
  exact a.antisymm (h1 i hi j hj)
/-! ### both ends read anew at each step -/
def rx (b i j : Nat) (M : Mx) : Mx := fun r c => if r = i ∧ c = j then les (M i j) (adO (M i b) (M b j)) else M r c
def LI (b i : Nat) (M : Mx) : Nat → Mx
  | 0 => M
  | j + 1 => rx b i j (LI b i M j)
def LB (n b : Nat) (M : Mx) : Nat → Mx
  | 0 => M
  | i + 1 => LI b i (LB n b M i) n
def LC (n : Nat) (M : Mx) : Nat → Mx
  | 0 => M
  | b + 1 => LB n b (LC n M b) n
theorem rx_le (b i j : Nat) (M : Mx) (r c : Nat) : Le (rx b i j M r c) (M r c) := by
  unfold rx
  split
  · rename_i h; rw [h.1, h.2]; exact les_l _ _
  · exact Le.refl _
theorem LI_le (b i : Nat) (M : Mx) : ∀ (j r c : Nat), Le (LI b i M j r c) (M r c)
  | 0, r, c => Le.refl _
  | j + 1, r, c => (rx_le b i j _ r c).trans (LI_le b i M j r c)
theorem LB_le (n b : Nat) (M : Mx) : ∀ (i r c : Nat), Le (LB n b M i r c) (M r c)
  | 0, r, c => Le.refl _
  | i + 1, r, c => (LI_le b i _ n r c).trans (LB_le n b M i r c)
theorem LC_le (n : Nat) (M : Mx) : ∀ (b r c : Nat), Le (LC n M b r c) (M r c)
  | 0, r, c => Le.refl _
  | b + 1, r, c => (LB_le n b _ n r c).trans (LC_le n M b r c)
theorem ad_le {x y : Option Int} (h : Nn y) : Le x (adO x y) := by rw [adO_comm]; exact le_ad h
theorem LI_eq {b i : Nat} {M : Mx} (h : Nn (M b b)) : ∀ (j r c : Nat), LI b i M j r c = if r = i ∧ c < j then les (M i c) (adO (M i b) (M b c)) else M r c
  | 0, r, c => by rw [if_neg (by omega)]; rfl
  | j + 1, r, c => by
    have ih := LI_eq h (i := i) j
    have e1 : LI b i M j i j = M i j := by rw [ih, if_neg (by omega)]
    have e2 : LI b i M j i b = M i b := by
      rw [ih]
      split
      · exact les_of_le (ad_le h)
      · rfl
    have e3 : LI b i M j b j = M b j := by
      rw [ih]
      split
      · rename_i z; omega
      · rfl
    show (if r = i ∧ c = j then les (LI b i M j i j) (adO (LI b i M j i b) (LI b i M j b j)) else LI b i M j r c) = _
    rw [e1, e2, e3]
    by_cases z : r = i ∧ c = j
    · rw [if_pos z, if_pos ⟨z.1, by omega⟩, z.2]
    · rw [if_neg z, ih]
      by_cases z2 : r = i ∧ c < j
      · rw [if_pos z2, if_pos ⟨z2.1, by omega⟩]
      · rw [if_neg z2, if_neg (by omega)]
def EqN (n : Nat) (A B : Mx) : Prop := ∀ r < n, ∀ c < n, A r c = B r c
theorem stI_eqN {n b i : Nat} {A B : Mx} (h : EqN n A B) (hb : b < n) (hi : i < n) : EqN n (stI b i A) (stI b i B) := by
  intro r hr c hc
  unfold stI
  rw [h i hi c hc, h i hi b hb, h b hb c hc, h r hr c hc]
theorem LI_st {n b i : Nat} {M : Mx} (h : Nn (M b b)) : EqN n (LI b i M n) (stI b i M) := by
  intro r hr c hc
  rw [LI_eq h]
  unfold stI
  by_cases z : r = i
  · rw [if_pos ⟨z, hc⟩, if_pos z]
  · rw [if_neg (by omega), if_neg z]
theorem LB_diag {n b : Nat} {M : Mx} (h : Nn (M b b)) : ∀ i, LB n b M i b b = M b b
  | 0 => rfl
  | i + 1 => by
    have ih := LB_diag h (n := n) i
    show LI b i (LB n b M i) n b b = _
    rw [LI_eq (by rw [ih]; exact h)]
    split
    · rename_i z
      obtain ⟨rfl, _⟩ := z
      rw [ih]
      exact les_of_le (le_ad h)
    · exact ih
theorem LB_st {n b : Nat} {M : Mx} (h : Nn (M b b)) (hb : b < n) : ∀ i, i ≤ n → EqN n (LB n b M i) (stB b M i)
  | 0, _ => fun r _ c _ => rfl
  | i + 1, hi => by
    have ih := LB_st h hb i (by omega)
    have a : EqN n (LI b i (LB n b M i) n) (stI b i (LB n b M i)) := LI_st (by rw [LB_diag h]; exact h)
    have c := stI_eqN ih hb (i := i) (by omega)
    intro r hr c' hc
    exact (a r hr c' hc).trans (c r hr c' hc)
theorem LI_eqN {n b i : Nat} {A B : Mx} (h : EqN n A B) (hb : b < n) (hi : i < n) : ∀ j, j ≤ n → EqN n (LI b i A j) (LI b i B j)
  | 0, _ => h
  | j + 1, hj => by
    have ih := LI_eqN h hb hi j (by omega)
    intro r hr c hc
    show rx b i j _ r c = rx b i j _ r c
    unfold rx
    rw [ih i hi j (by omega), ih i hi b hb, ih b hb j (by omega), ih r hr c hc]
theorem LB_eqN {n b : Nat} {A B : Mx} (h : EqN n A B) (hb : b < n) : ∀ i, i ≤ n → EqN n (LB n b A i) (LB n b B i)
  | 0, _ => h
  | i + 1, hi => LI_eqN (LB_eqN h hb i (by omega)) hb (by omega) n (Nat.le_refl _)
/-- the same, or a ring below 0 in both -/
theorem LC_or {n : Nat} (M : Mx) : ∀ b, b ≤ n → EqN n (LC n M b) (clo n M b) ∨ ((∃ d < n, ¬ Nn (LC n M b d d)) ∧ ∃ d < n, ¬ Nn (clo n M b d d))
  | 0, _ => .inl fun r _ c _ => rfl
  | b + 1, hb => by
    rcases LC_or (n := n) M b (by omega) with h | ⟨⟨d, hd, h1⟩, ⟨e, he, h2⟩⟩
    · by_cases hn : Nn (clo n M b b b)
      · left
        have a := LB_eqN h (b := b) (show b < n by omega) n (Nat.le_refl _)
        have c := LB_st (n := n) (M := clo n M b) hn (show b < n by omega) n (Nat.le_refl _)
        intro r hr c' hc
        exact (a r hr c' hc).trans (c r hr c' hc)
      · right
        refine ⟨⟨b, by omega, fun z => hn ?_⟩, ⟨b, by omega, fun z => hn (z.up (stB_le b _ n b b))⟩⟩
        rw [← h b (by omega) b (by omega)]
        exact z.up (LB_le n b _ n b b)
    · exact .inr ⟨⟨d, hd, fun z => h1 (z.up (LB_le n b _ n d d))⟩, ⟨e, he, fun z => h2 (z.up (stB_le b _ n e e))⟩⟩
/-- with another order, too -/
theorem LC_clo {n : Nat} {M M' : Mx} {p q : Nat → Nat} (hp : ∀ i < n, p i < n) (hq : ∀ i < n, q i < n) (pq : ∀ i < n, p (q i) = i) (qp : ∀ i < n, q (p i) = i) (hM : ∀ i < n, ∀ j < n, M' i j = M (p i) (p j)) :
    ((∀ i < n, Nn (clo n M n i i)) ∧ (∀ i < n, Nn (LC n M' n i i)) ∧ ∀ i < n, ∀ j < n, LC n M' n i j = clo n M n (p i) (p j)) ∨ ((∃ i < n, ¬ Nn (clo n M n i i)) ∧ ∃ i < n, ¬ Nn (LC n M' n i i)) := by
  by_cases hd : ∀ i < n, Nn (clo n M n i i)
  · left
    have e := clo_perm hp hq pq qp hM hd
    have e2 : EqN n (LC n M' n) (clo n M' n) := by
      rcases LC_or M' n (Nat.le_refl _) with h | ⟨_, ⟨d, hd', h2⟩⟩
      · exact h
      · exact absurd (by rw [e d hd' d hd']; exact hd _ (hp d hd')) h2
    refine ⟨hd, fun i hi => ?_, fun i hi j hj => (e2 i hi j hj).trans (e i hi j hj)⟩
    rw [e2 i hi i hi, e i hi i hi]
    exact hd _ (hp i hi)
  · right
    have hd : ∃ i < n, ¬ Nn (clo n M n i i) := Classical.byContradiction fun z => hd fun i hi => Classical.byContradiction fun y => z ⟨i, hi, y⟩
    refine ⟨hd, Classical.byContradiction fun z => ?_⟩
    have hl : ∀ i < n, Nn (LC n M' n i i) := fun i hi => Classical.byContradiction fun y => z ⟨i, hi, y⟩
    have e2 : EqN n (LC n M' n) (clo n M' n) := by
      rcases LC_or M' n (Nat.le_refl _) with h | ⟨⟨d, hd', h2⟩, _⟩
      · exact h
      · exact absurd (hl d hd') h2
    have hd2 : ∀ i < n, Nn (clo n M' n i i) := fun i hi => by rw [← e2 i hi i hi]; exact hl i hi
    have e := clo_perm (M := M') (M' := M) hq hp qp pq (fun i hi j hj => by rw [hM _ (hq i hi) _ (hq j hj), pq i hi, pq j hj]) hd2
    obtain ⟨i, hi, y⟩ := hd
    exact y (by rw [e i hi i hi]; exact hd2 _ (hq i hi))
/-! ### how great sums get -/
def Bd (n : Nat) (B : Int) (M : Mx) : Prop := ∀ i < n, ∀ j < n, ∀ c, M i j = some c → -B ≤ c ∧ c ≤ B
theorem ad_bd {B : Int} {x y : Option Int} (hx : ∀ c, x = some c → -B ≤ c ∧ c ≤ B) (hy : ∀ c, y = some c → -B ≤ c ∧ c ≤ B) : ∀ c, adO x y = some c → -(2 * B) ≤ c ∧ c ≤ 2 * B := by
  intro c e
  cases x with
  | none => cases e
  | some x =>
    cases y with
    | none => cases e
    | some y =>
      have e : x + y = c := Option.some.inj e
      have := hx x rfl
      have := hy y rfl
      omega
theorem clo_bd {n : Nat} {B : Int} (hB : 0 ≤ B) {M : Mx} (h : Bd n B M) (hd : ∀ i < n, Nn (clo n M n i i)) : ∀ b, b ≤ n → Bd n (2 ^ b * B) (clo n M b)
  | 0, _ => by
    rw [Int.pow_zero, Int.one_mul]
    exact h
  | b + 1, hb => by
    have ih := clo_bd hB h hd b (by omega)
    have e : clo n M n = clo n M (b + (n - b)) := by rw [show b + (n - b) = n by omega]
    have hn : Nn (clo n M b b b) := (hd b (by omega)).up (by rw [e]; exact clo_le' n M (n - b) b b b)
    have p0 : (0 : Int) ≤ 2 ^ b * B := Int.mul_nonneg (Int.pow_nonneg (by decide)) hB
    have pe : (2 : Int) ^ (b + 1) * B = 2 * (2 ^ b * B) := by rw [Int.pow_succ, Int.mul_comm (2 ^ b) 2, Int.mul_assoc]
    rw [pe]
    intro i hi j hj c e
    have e : stB b (clo n M b) n i j = some c := e
    rw [stB_eq hn, if_pos hi] at e
    rcases les_or (clo n M b i j) (adO (clo n M b i b) (clo n M b b j)) with z | z
    · rw [z] at e
      have := ih i hi j hj c e
      omega
    · rw [z] at e
      exact ad_bd (ih i hi b (by omega)) (ih b (by omega) j hj) c e
end MG

/-! Closed bounds known in advance: plain. -/
namespace MG
/-- a table told by what it must be -/
theorem clo_is {n : Nat} {M N : Mx} (h0 : ∀ i < n, N i i = some 0) (tri : ∀ i < n, ∀ j < n, ∀ c < n, Le (N i j) (adO (N i c) (N c j))) (le : ∀ i < n, ∀ j < n, Le (N i j) (M i j))
    (att : ∀ C : Mx, (∀ i < n, ∀ j < n, ∀ c < n, Le (C i j) (adO (C i c) (C c j))) → (∀ i < n, ∀ j < n, Le (C i j) (M i j)) → ∀ i < n, ∀ j < n, Le (C i j) (N i j)) : ∀ i < n, ∀ j < n, clo n M n i j = N i j := by
  have lst := clo_least tri le n (Nat.le_refl n)
  have dg : ∀ i < n, Nn (clo n M n i i) := fun i hi => by
    have q := lst i hi i hi
    rw [h0 i hi] at q
    exact Nn.up (fun a e => by cases e; exact Int.le_refl _) q
  have cl : ∀ i < n, ∀ j < n, ∀ c < n, Le (clo n M n i j) (adO (clo n M n i c) (clo n M n c j)) := fun i hi j hj c hc => closed dg hi hj hc
  exact fun i hi j hj => Le.antisymm (att _ cl (fun i hi j hj => clo_le n M n i j) i hi j hj) (lst i hi j hj)
theorem clo_neg {n : Nat} {M : Mx} (att : ∀ C : Mx, (∀ i < n, ∀ j < n, ∀ c < n, Le (C i j) (adO (C i c) (C c j))) → (∀ i < n, ∀ j < n, Le (C i j) (M i j)) → ∃ i < n, ∃ c, C i i = some c ∧ c < 0) : ∃ i < n, ∃ c, clo n M n i i = some c ∧ c < 0 := by
  by_cases h : ∃ i < n, ∃ c, clo n M n i i = some c ∧ c < 0
  · exact h
  · have dg : ∀ i < n, Nn (clo n M n i i) := fun i hi a e => by
      rcases Int.lt_or_le a 0 with q | q
      · exact absurd ⟨i, hi, a, e, q⟩ h
      · exact q
    exact att _ (fun i hi j hj c hc => closed dg hi hj hc) fun i hi j hj => clo_le n M n i j
theorem le_s {x : Option Int} {a b : Int} (h : Le x (some a)) (k : a ≤ b) : Le x (some b) := fun c e => by
  cases e
  obtain ⟨d, e, l⟩ := h a rfl
  exact ⟨d, e, by omega⟩
theorem le_ss {a b : Int} (k : a ≤ b) : Le (some a) (some b) := fun c e => by cases e; exact ⟨a, rfl, k⟩
theorem ad_s {x y : Option Int} {a b : Int} (h : Le x (some a)) (k : Le y (some b)) : Le (adO x y) (some (a + b)) := adO_mono h k
theorem adO_ss (a b : Int) : adO (some a) (some b) = some (a + b) := rfl
theorem adO_n (x : Option Int) : adO x none = none := by cases x <;> rfl
theorem n_adO (x : Option Int) : adO none x = none := by cases x <;> rfl
/-! ### rings -/
/-- r in a ring, P the sums from the first on; the others by themselves -/
def RM (r : Nat) (P : Nat → Int) : Mx := fun i j => if i = j then some 0 else if j = i + 1 ∧ j < r then some (P j - P i) else if i + 1 = r ∧ j = 0 then some (P r - P i) else none
def RN (r : Nat) (P : Nat → Int) : Mx := fun i j => if i = j then some 0 else if i < r ∧ j < r then some (if i < j then P j - P i else P r - (P i - P j)) else none
def vR (r : Nat) (P : Nat → Int) (i j : Nat) : Int := if i = j then 0 else if i < j then P j - P i else P r - (P i - P j)
theorem RN_in {r : Nat} {P : Nat → Int} {i j : Nat} (hi : i < r) (hj : j < r) : RN r P i j = some (vR r P i j) := by
  unfold RN vR
  by_cases h : i = j
  · rw [if_pos h, if_pos h]
  · rw [if_neg h, if_neg h, if_pos ⟨hi, hj⟩]
theorem RN_out {r : Nat} {P : Nat → Int} {i j : Nat} (h : i ≠ j) (k : ¬ (i < r ∧ j < r)) : RN r P i j = none := by
  unfold RN
  rw [if_neg h, if_neg k]
theorem vR_tri {r : Nat} {P : Nat → Int} (h : 0 ≤ P r) (i j c : Nat) : vR r P i j ≤ vR r P i c + vR r P c j := by
  unfold vR
  by_cases h1 : i = j <;> by_cases h2 : i = c <;> by_cases h3 : c = j
  · rw [if_pos h1, if_pos h2, if_pos h3]; omega
  · omega
  · omega
  · subst h1
    rw [if_pos rfl, if_neg h2, if_neg h3]
    by_cases a : i < c <;> by_cases b : c < i <;> simp only [a, b, if_true, if_false] <;> omega
  · omega
  · subst h2
    rw [if_neg h1, if_pos rfl]
    by_cases a : i < j <;> simp only [a, if_true, if_false] <;> omega
  · subst h3
    rw [if_neg h1, if_pos rfl]
    by_cases a : i < c <;> simp only [a, if_true, if_false] <;> omega
  · rw [if_neg h1, if_neg h2, if_neg h3]
    by_cases a : i < j <;> by_cases b : i < c <;> by_cases d : c < j <;> simp only [a, b, d, if_true, if_false] <;> omega
section
variable {n r : Nat} {P : Nat → Int} {M : Mx} (hr : r ≤ n) (r2 : 2 ≤ r) (p0 : P 0 = 0) (hM : ∀ i < n, ∀ j < n, M i j = RM r P i j)
include hr r2 p0 hM
theorem ring_walk {C : Mx} (tri : ∀ i < n, ∀ j < n, ∀ c < n, Le (C i j) (adO (C i c) (C c j))) (le : ∀ i < n, ∀ j < n, Le (C i j) (M i j)) : (∀ i < n, Le (C i i) (some 0)) ∧ (∀ (d i : Nat), i + d < r → Le (C i (i + d)) (some (P (i + d) - P i))) ∧ Le (C (r - 1) 0) (some (P r - P (r - 1))) := by
  have d0 : ∀ i < n, Le (C i i) (some 0) := fun i hi => by
    have q := le i hi i hi
    rw [hM i hi i hi] at q
    unfold RM at q
    rwa [if_pos rfl] at q
  refine ⟨d0, fun d => ?_, ?_⟩
  · induction d with
    | zero => intro i h; exact le_s (d0 i (by omega)) (by rw [Nat.add_zero]; omega)
    | succ d ih =>
      intro i h
      have e1 := ih i (by omega)
      have e2 := le (i + d) (by omega) (i + (d + 1)) (by omega)
      rw [hM _ (by omega) _ (by omega)] at e2
      unfold RM at e2
      rw [if_neg (by omega), if_pos ⟨by omega, h⟩] at e2
      exact Le.trans (tri i (by omega) (i + (d + 1)) (by omega) (i + d) (by omega)) (le_s (ad_s e1 e2) (by omega))
  · have e2 := le (r - 1) (by omega) 0 (by omega)
    rw [hM _ (by omega) _ (by omega)] at e2
    unfold RM at e2
    rwa [if_neg (by omega), if_neg (by omega), if_pos ⟨by omega, rfl⟩] at e2
theorem ring_clo (hT : 0 ≤ P r) : ∀ i < n, ∀ j < n, clo n M n i j = RN r P i j := by
  refine clo_is (fun i _ => if_pos rfl) (fun i hi j hj c hc => ?_) (fun i hi j hj => ?_) fun C tri le i hi j hj => ?_
  · by_cases h1 : i = j
    · subst h1
      by_cases h2 : i = c
      · subst h2
        rw [show RN r P i i = some 0 from if_pos rfl]
        exact le_ss (by omega)
      · by_cases k : i < r ∧ c < r
        · rw [RN_in k.1 k.2, RN_in k.2 k.1, RN_in k.1 k.1, adO_ss]
          exact le_ss (vR_tri hT _ _ _)
        · rw [RN_out h2 k, n_adO]; exact Le.none _
    · by_cases k : i < r ∧ j < r
      · by_cases kc : c < r
        · rw [RN_in k.1 k.2, RN_in k.1 kc, RN_in kc k.2, adO_ss]
          exact le_ss (vR_tri hT _ _ _)
        · rw [RN_out (i := i) (j := c) (by omega) (fun q => kc q.2), n_adO]; exact Le.none _
      · by_cases h2 : i = c
        · subst h2
          rw [RN_out h1 k, adO_n]; exact Le.none _
        · by_cases k2 : i < r ∧ c < r
          · rw [RN_out (i := c) (j := j) (by omega) (fun q => k ⟨k2.1, q.2⟩), adO_n]; exact Le.none _
          · rw [RN_out h2 k2, n_adO]; exact Le.none _
  · rw [hM i hi j hj]
    unfold RM
    by_cases h1 : i = j
    · rw [if_pos h1]; unfold RN; rw [if_pos h1]; exact Le.refl _
    · rw [if_neg h1]
      by_cases h2 : j = i + 1 ∧ j < r
      · rw [if_pos h2, RN_in (by omega) h2.2]
        unfold vR
        rw [if_neg h1, if_pos (by omega)]
        exact Le.refl _
      · rw [if_neg h2]
        by_cases h3 : i + 1 = r ∧ j = 0
        · rw [if_pos h3, RN_in (by omega) (by omega)]
          unfold vR
          rw [if_neg h1, if_neg (by omega), h3.2, p0]
          exact le_ss (by omega)
        · rw [if_neg h3]; exact Le.none _
  · obtain ⟨d0, w, l⟩ := ring_walk hr r2 p0 hM tri le
    by_cases h1 : i = j
    · subst h1
      rw [show RN r P i i = some 0 from if_pos rfl]
      exact d0 i hi
    · by_cases k : i < r ∧ j < r
      · rw [RN_in k.1 k.2]
        unfold vR
        rw [if_neg h1]
        by_cases h2 : i < j
        · rw [if_pos h2]
          have := w (j - i) i (by omega)
          rwa [show i + (j - i) = j by omega] at this
        · rw [if_neg h2]
          have a := w (r - 1 - i) i (by omega)
          rw [show i + (r - 1 - i) = r - 1 by omega] at a
          have b := w j 0 (by omega)
          rw [Nat.zero_add, p0] at b
          have c1 := tri i hi j hj (r - 1) (by omega)
          have c2 := tri (r - 1) (by omega) j hj 0 (by omega)
          exact Le.trans c1 (le_s (ad_s a (Le.trans c2 (ad_s l b))) (by omega))
      · rw [RN_out h1 k]; exact Le.none _
theorem ring_neg (hT : P r < 0) : ∃ i < n, ∃ c, clo n M n i i = some c ∧ c < 0 := by
  refine clo_neg fun C tri le => ?_
  obtain ⟨d0, w, l⟩ := ring_walk hr r2 p0 hM tri le
  have a := w (r - 1) 0 (by omega)
  rw [Nat.zero_add, p0] at a
  obtain ⟨c, e, k⟩ := Le.trans (tri 0 (by omega) 0 (by omega) (r - 1) (by omega)) (ad_s a l) _ rfl
  exact ⟨0, by omega, c, e, by omega⟩
end
/-! ### all variables single -/
theorem pot_clo {n : Nat} {M : Mx} {f : Nat → Int} {z : Nat} (hz : z < n) (le : ∀ i < n, ∀ j < n, Le (some (f i - f j)) (M i j)) (up : ∀ i < n, M i z = some (f i - f z)) (dn : ∀ j < n, M z j = some (f z - f j)) : ∀ i < n, ∀ j < n, clo n M n i j = some (f i - f j) := by
  refine clo_is (N := fun i j => some (f i - f j)) (fun i _ => by show some (f i - f i) = some 0; rw [Int.sub_self]) (fun i _ j _ c _ => le_ss (by omega)) le fun C tri le' i hi j hj => ?_
  have a := le' i hi z hz
  have b := le' z hz j hj
  rw [up i hi] at a
  rw [dn j hj] at b
  exact Le.trans (tri i hi j hj z hz) (le_s (ad_s a b) (by omega))
/-- nothing but noughts -/
theorem id_clo {n : Nat} {M : Mx} (hM : ∀ i < n, ∀ j < n, M i j = if i = j then some 0 else none) : ∀ i < n, ∀ j < n, clo n M n i j = if i = j then some 0 else none := by
  refine clo_is (N := fun i j => if i = j then some 0 else none) (fun i _ => if_pos rfl) (fun i hi j hj c hc => ?_) (fun i hi j hj => by rw [hM i hi j hj]; exact Le.refl _) fun C tri le' i hi j hj => by rw [← hM i hi j hj]; exact le' i hi j hj
  show Le (if i = j then some 0 else none) (adO (if i = c then some 0 else none) (if c = j then some 0 else none))
  by_cases h1 : i = c
  · subst h1
    rw [if_pos rfl]
    by_cases h2 : i = j
    · rw [if_pos h2]; exact le_ss (by omega)
    · rw [if_neg h2]; exact Le.none _
  · rw [if_neg h1, n_adO]; exact Le.none _
theorem diag_some {n : Nat} {M : Mx} (h : ∀ i < n, M i i = some 0) : ∀ i < n, clo n M n i i = some ((clo n M n i i).getD 0) := fun i hi => by
  obtain ⟨c, e, _⟩ := clo_le n M n i i 0 (h i hi)
  rw [e]
  rfl
end MG

/-! closed tables: hull, join, permutation, shift, a bound that follows -/
namespace MG
structure Cz (n : Nat) (A : Mx) : Prop where
  z : ∀ i < n, A i i = some 0
  t : ∀ i < n, ∀ j < n, ∀ c < n, Le (A i j) (adO (A i c) (A c j))
theorem Cz.clo {n : Nat} {A : Mx} (h : Cz n A) : ∀ i < n, ∀ j < n, clo n A n i j = A i j :=
  clo_is h.z h.t (fun i _ j _ => Le.refl _) fun C tri le => le
theorem clo_Cz {n : Nat} {A : Mx} (h0 : ∀ i < n, A i i = some 0) (hd : ∀ i < n, Nn (clo n A n i i)) : Cz n (clo n A n) :=
  ⟨fun i hi => diag0 hd h0 hi, fun i hi j hj c hc => closed hd hi hj hc⟩
theorem nn_or (n : Nat) (A : Mx) (h0 : ∀ i < n, A i i = some 0) : (∀ i < n, Nn (clo n A n i i)) ∨ ∃ i < n, ∃ c, clo n A n i i = some c ∧ c < 0 := by
  by_cases h : ∃ i < n, ∃ c, clo n A n i i = some c ∧ c < 0
  · exact .inr h
  · refine .inl fun i hi a e => ?_
    rcases Int.lt_or_le a 0 with q | q
    · exact absurd ⟨i, hi, a, e, q⟩ h
    · exact q
/-- a closed table below M, above all closed ones below M, is M's closing -/
theorem clo_of {n : Nat} {M N : Mx} (hN : Cz n N) (le : ∀ i < n, ∀ j < n, Le (N i j) (M i j))
    (att : ∀ C : Mx, (∀ i < n, ∀ j < n, ∀ c < n, Le (C i j) (adO (C i c) (C c j))) → (∀ i < n, ∀ j < n, Le (C i j) (M i j)) → ∀ i < n, ∀ j < n, Le (C i j) (N i j)) : ∀ i < n, ∀ j < n, MG.clo n M n i j = N i j :=
  clo_is hN.z hN.t le att
/-! ### the other order -/
theorem perm_neg {n : Nat} {M M' : Mx} {p q : Nat → Nat} (hp : ∀ i < n, p i < n) (hq : ∀ i < n, q i < n) (pq : ∀ i < n, p (q i) = i) (qp : ∀ i < n, q (p i) = i) (hM : ∀ i < n, ∀ j < n, M' i j = M (p i) (p j)) (h0 : ∀ i < n, M i i = some 0)
    (h : ∃ i < n, ∃ c, MG.clo n M n i i = some c ∧ c < 0) : ∃ i < n, ∃ c, MG.clo n M' n i i = some c ∧ c < 0 := by
  rcases nn_or n M' (fun i hi => by rw [hM i hi i hi]; exact h0 _ (hp i hi)) with hd | g
  · exfalso
    have e := clo_perm (M := M') (M' := M) hq hp qp pq (fun i hi j hj => by rw [hM _ (hq i hi) _ (hq j hj), pq i hi, pq j hj]) hd
    obtain ⟨i, hi, c, e1, e2⟩ := h
    rw [e i hi i hi] at e1
    have := hd _ (hq i hi) c e1
    omega
  · exact g
/-! ### one variable greater -/
def sh (s : Nat → Int) (A : Mx) : Mx := fun i j => match A i j with
  | none => none
  | some a => some (a + (s i - s j))
theorem sh_le {s : Nat → Int} {A B : Mx} {i j : Nat} (h : Le (A i j) (B i j)) : Le (sh s A i j) (sh s B i j) := by
  intro b e
  unfold sh at e ⊢
  cases hB : B i j with
  | none => rw [hB] at e; cases e
  | some y =>
    rw [hB] at e
    cases e
    obtain ⟨x, hx, l⟩ := h y hB
    rw [hx]
    exact ⟨_, rfl, by omega⟩
theorem sh_tri {s : Nat → Int} {A : Mx} {i j c : Nat} (h : Le (A i j) (adO (A i c) (A c j))) : Le (sh s A i j) (adO (sh s A i c) (sh s A c j)) := by
  intro b e
  unfold sh at e ⊢
  cases h1 : A i c with
  | none => rw [h1] at e; cases e
  | some x =>
    cases h2 : A c j with
    | none => rw [h1, h2] at e; cases e
    | some y =>
      rw [h1, h2] at e
      cases e
      rw [h1, h2] at h
      obtain ⟨z, hz, l⟩ := h (x + y) rfl
      rw [hz]
      exact ⟨_, rfl, by omega⟩
theorem sh_back (s : Nat → Int) (A : Mx) (i j : Nat) : sh (fun i => -(s i)) (sh s A) i j = A i j := by
  unfold sh
  cases A i j with
  | none => rfl
  | some x =>
    show some (x + (s i - s j) + (-(s i) - -(s j))) = some x
    congr 1
    omega
theorem sh_Cz {n : Nat} {s : Nat → Int} {A : Mx} (h : Cz n A) : Cz n (sh s A) :=
  ⟨fun i hi => by
    unfold sh
    rw [h.z i hi]
    show some _ = some _
    congr 1
    omega, fun i hi j hj c hc => sh_tri (h.t i hi j hj c hc)⟩
theorem sh_clo {n : Nat} {s : Nat → Int} {A : Mx} (h0 : ∀ i < n, A i i = some 0) (hd : ∀ i < n, Nn (MG.clo n A n i i)) : ∀ i < n, ∀ j < n, MG.clo n (sh s A) n i j = sh s (MG.clo n A n) i j := by
  refine clo_of (sh_Cz (clo_Cz h0 hd)) (fun i hi j hj => sh_le (clo_le n A n i j)) fun C tri le i hi j hj => ?_
  have k := clo_least (n := n) (M := A) (N := sh (fun i => -(s i)) C) (fun i hi j hj c hc => sh_tri (tri i hi j hj c hc)) (fun i hi j hj => by
    have := sh_le (s := fun i => -(s i)) (le i hi j hj)
    rw [sh_back] at this
    exact this) n (Nat.le_refl n) i hi j hj
  have k2 := sh_le (s := s) k
  have e := sh_back (fun i => -(s i)) C i j
  have e3 : (fun i => - -(s i)) = s := by funext i; exact Int.neg_neg _
  rw [e3] at e
  rw [e] at k2
  exact k2
/-! ### a bound that follows -/
theorem bound_clo {n : Nat} {A A' : Mx} (h0 : ∀ i < n, A i i = some 0) (hd : ∀ i < n, Nn (MG.clo n A n i i)) (h1 : ∀ i < n, ∀ j < n, Le (MG.clo n A n i j) (A' i j)) (h2 : ∀ i < n, ∀ j < n, Le (A' i j) (A i j)) : ∀ i < n, ∀ j < n, MG.clo n A' n i j = MG.clo n A n i j :=
  clo_of (clo_Cz h0 hd) h1 fun C tri le => clo_least tri (fun i hi j hj => (le i hi j hj).trans (h2 i hi j hj)) n (Nat.le_refl n)
/-! ### joins -/
def gr : Option Int → Option Int → Option Int
  | some a, some b => some (if b > a then b else a)
  | _, _ => none
theorem gr_some {x y : Option Int} {b : Int} (h : gr x y = some b) : ∃ u v, x = some u ∧ y = some v ∧ b = (if v > u then v else u) := by
  cases x with
  | none => cases h
  | some u => cases y with
    | none => cases h
    | some v => exact ⟨u, v, rfl, rfl, (Option.some.inj h).symm⟩
theorem gr_l (x y : Option Int) : Le x (gr x y) := fun b h => by
  obtain ⟨u, v, rfl, rfl, rfl⟩ := gr_some h
  refine ⟨u, rfl, ?_⟩
  split <;> omega
theorem gr_tri {a b c d e f : Option Int} (h : Le a (adO b c)) (g : Le d (adO e f)) : Le (gr a d) (adO (gr b e) (gr c f)) := by
  intro z hz
  cases h1 : gr b e with
  | none => rw [h1] at hz; cases hz
  | some x =>
    cases h2 : gr c f with
    | none => rw [h1, h2] at hz; cases hz
    | some y =>
      rw [h1, h2] at hz
      have hz : x + y = z := Option.some.inj hz
      obtain ⟨u, v, rfl, rfl, rfl⟩ := gr_some h1
      obtain ⟨u', v', rfl, rfl, rfl⟩ := gr_some h2
      obtain ⟨p, rfl, l1⟩ := h (u + u') rfl
      obtain ⟨q, rfl, l2⟩ := g (v + v') rfl
      refine ⟨_, rfl, ?_⟩
      subst hz
      split <;> split <;> split <;> omega
def jnM (A B : Mx) : Mx := fun i j => gr (A i j) (B i j)
theorem jnM_Cz {n : Nat} {A B : Mx} (h : Cz n A) (g : Cz n B) : Cz n (jnM A B) :=
  ⟨fun i hi => by unfold jnM; rw [h.z i hi, g.z i hi]; rfl, fun i hi j hj c hc => gr_tri (h.t i hi j hj c hc) (g.t i hi j hj c hc)⟩
/-! ### hulls -/
def mx (i : Int) (is : List Int) : Int := is.foldl (fun a b => if b > a then b else a) i
def mn (i : Int) (is : List Int) : Int := is.foldl (fun a b => if b < a then b else a) i
theorem mx_ge : ∀ (is : List Int) (i : Int), i ≤ mx i is ∧ ∀ x ∈ is, x ≤ mx i is
  | [], i => ⟨Int.le_refl _, fun x hx => by cases hx⟩
  | y :: is, i => by
    obtain ⟨a, b⟩ := mx_ge is (if y > i then y else i)
    show i ≤ mx (if y > i then y else i) is ∧ _
    have c : i ≤ (if y > i then y else i) ∧ y ≤ (if y > i then y else i) := by split <;> omega
    refine ⟨Int.le_trans c.1 a, fun x hx => ?_⟩
    rcases List.mem_cons.mp hx with rfl | hx
    · exact Int.le_trans c.2 a
    · exact b x hx
theorem mx_mem : ∀ (is : List Int) (i : Int), mx i is ∈ i :: is
  | [], i => List.mem_cons_self
  | y :: is, i => by
    have a := mx_mem is (if y > i then y else i)
    show mx (if y > i then y else i) is ∈ i :: y :: is
    rcases List.mem_cons.mp a with a | a
    · rw [a]
      split
      · exact List.mem_cons_of_mem _ List.mem_cons_self
      · exact List.mem_cons_self
    · exact List.mem_cons_of_mem _ (List.mem_cons_of_mem _ a)
theorem mn_neg : ∀ (is : List Int) (i : Int), mn i is = -(mx (0 - i) (is.map fun x => 0 - x))
  | [], i => by show i = -(0 - i); omega
  | y :: is, i => by
    show mn (if y < i then y else i) is = -(mx (if 0 - y > 0 - i then 0 - y else 0 - i) (is.map fun x => 0 - x))
    rw [mn_neg is]
    congr 2
    by_cases h : y < i
    · rw [if_pos h, if_pos (by omega)]
    · rw [if_neg h, if_neg (by omega)]
def hl (s : Nat → Int) (S : List (Nat → Int)) : Mx := fun i j => some (mx (s i - s j) (S.map fun x => x i - x j))
theorem hl_Cz (n : Nat) (s : Nat → Int) (S : List (Nat → Int)) : Cz n (hl s S) := by
  refine ⟨fun i _ => ?_, fun i _ j _ c _ => ?_⟩
  · unfold hl
    congr 1
    have := mx_mem (S.map fun x => x i - x i) (s i - s i)
    rcases List.mem_cons.mp this with h | h
    · rw [h]; omega
    · obtain ⟨x, _, e⟩ := List.mem_map.mp h
      rw [← e]; omega
  · refine le_ss ?_
    obtain ⟨a1, a2⟩ := mx_ge (S.map fun x => x i - x c) (s i - s c)
    obtain ⟨b1, b2⟩ := mx_ge (S.map fun x => x c - x j) (s c - s j)
    rcases List.mem_cons.mp (mx_mem (S.map fun x => x i - x j) (s i - s j)) with h | h
    · rw [h]; omega
    · obtain ⟨x, hx, e⟩ := List.mem_map.mp h
      have a := a2 _ (List.mem_map_of_mem hx)
      have b := b2 _ (List.mem_map_of_mem hx)
      rw [← e]
      have a : x i - x c ≤ _ := a
      have b : x c - x j ≤ _ := b
      omega
end MG

/-! The least sums along ways that meet no variable twice are the closed bounds. -/
namespace MG
/-- the least of some -/
def lsM (l : List (Option Int)) : Option Int := l.foldr les none
theorem lsM_le : ∀ {l : List (Option Int)} {x : Option Int}, x ∈ l → Le (lsM l) x
  | [], _, h => absurd h List.not_mem_nil
  | y :: l, x, h => by
    show Le (les y (lsM l)) x
    rcases List.mem_cons.mp h with e | h
    · rw [e]; exact les_l _ _
    · exact (les_r _ _).trans (lsM_le h)
theorem lsM_ge {c : Option Int} : ∀ {l : List (Option Int)}, (∀ x ∈ l, Le c x) → Le c (lsM l)
  | [], _ => Le.none _
  | y :: l, h => by
    show Le c (les y (lsM l))
    rcases les_or y (lsM l) with e | e
    · rw [e]; exact h y List.mem_cons_self
    · rw [e]; exact lsM_ge fun x hx => h x (List.mem_cons_of_mem _ hx)
theorem ad_0 (x : Option Int) : adO x (some 0) = x := by
  cases x with
  | none => rfl
  | some a => show some (a + 0) = some a; rw [Int.add_zero]
theorem z_ad (x : Option Int) : adO (some 0) x = x := by rw [adO_comm]; exact ad_0 x
theorem ad_inv {x y : Option Int} {c : Int} (h : adO x y = some c) : ∃ a b, x = some a ∧ y = some b ∧ c = a + b := by
  cases x with
  | none => cases h
  | some a =>
    cases y with
    | none => cases h
    | some b => exact ⟨a, b, rfl, rfl, (Option.some.inj h).symm⟩
/-- the sum along a way -/
def sm (T : Mx) : Nat → List Nat → Option Int
  | _, [] => some 0
  | i, v :: l => adO (T i v) (sm T v l)
/-- where a way ends -/
def lst : Nat → List Nat → Nat
  | i, [] => i
  | _, v :: l => lst v l
theorem lst_app : ∀ (i : Nat) (a b : List Nat), lst i (a ++ b) = lst (lst i a) b
  | _, [], _ => rfl
  | _, v :: a, b => lst_app v a b
theorem lst_mem : ∀ (i : Nat) (l : List Nat), l ≠ [] → lst i l ∈ l
  | _, [], h => absurd rfl h
  | _, [v], _ => List.mem_cons_self
  | _, v :: w :: l, _ => List.mem_cons_of_mem _ (lst_mem v (w :: l) (by simp))
theorem sm_app (T : Mx) : ∀ (i : Nat) (a b : List Nat), sm T i (a ++ b) = adO (sm T i a) (sm T (lst i a) b)
  | i, [], b => (z_ad _).symm
  | i, v :: a, b => by
    show adO (T i v) (sm T v (a ++ b)) = adO (adO (T i v) (sm T v a)) (sm T (lst v a) b)
    rw [sm_app T v a b, adO_assoc]
/-- the least sum along ways from h to g that meet nothing of s, and nothing twice -/
def way (T : Mx) (n g : Nat) : Nat → Nat → List Nat → Option Int
  | 0, _, _ => none
  | f + 1, h, s => lsM ((List.range n).map fun v => if v = h then none else if v = g then T h v else if v ∈ s then none else adO (T h v) (way T n g f v (s ++ [v])))
theorem way_ge {T C : Mx} {n g : Nat} (hg : g < n) (tri : ∀ i < n, ∀ j < n, ∀ c < n, Le (C i j) (adO (C i c) (C c j))) (le : ∀ i < n, ∀ j < n, Le (C i j) (T i j)) : ∀ (f h : Nat) (s : List Nat), h < n → Le (C h g) (way T n g f h s)
  | 0, _, _, _ => Le.none _
  | f + 1, h, s, hh => by
    refine lsM_ge fun x hx => ?_
    obtain ⟨v, hv, rfl⟩ := List.mem_map.mp hx
    have hv := List.mem_range.mp hv
    by_cases h1 : v = h
    · rw [if_pos h1]; exact Le.none _
    · rw [if_neg h1]
      by_cases h2 : v = g
      · rw [if_pos h2, h2]; exact le h hh g hg
      · rw [if_neg h2]
        by_cases h3 : v ∈ s
        · rw [if_pos h3]; exact Le.none _
        · rw [if_neg h3]
          exact (tri h hh g hg v hv).trans (adO_mono (le h hh v hv) (way_ge hg tri le f v (s ++ [v]) hv))
theorem way_le {T : Mx} {n g : Nat} : ∀ (f h : Nat) (s l : List Nat), l.length ≤ f → l ≠ [] → l.Nodup → lst h l = g → (∀ v ∈ l, v < n) → (∀ v ∈ l, v ≠ g → v ∉ s) → h ∈ s → l ≠ [h] → Le (way T n g f h s) (sm T h l)
  | _, _, _, [], _, h, _, _, _, _, _, _ => absurd rfl h
  | 0, _, _, _ :: _, h, _, _, _, _, _, _, _ => absurd h (by simp)
  | f + 1, h, s, [v], hf, _, nd, hg, hn, hs, hm, hl => by
    have e : v = g := hg
    have ne : v ≠ h := fun z => hl (by rw [z])
    show Le (lsM _) (adO (T h v) (some 0))
    rw [ad_0]
    refine lsM_le (List.mem_map.mpr ⟨v, List.mem_range.mpr (hn v List.mem_cons_self), ?_⟩)
    rw [if_neg ne, if_pos e]
  | f + 1, h, s, v :: w :: l, hf, _, nd, hg, hn, hs, hm, hl => by
    have nd' := List.nodup_cons.mp nd
    have mg : g ∈ w :: l := by
      have e : lst v (w :: l) = g := hg
      rw [← e]
      exact lst_mem v (w :: l) (by simp)
    have vg : v ≠ g := fun z => nd'.1 (by rw [z]; exact mg)
    have vs := hs v List.mem_cons_self vg
    have vh : v ≠ h := fun z => vs (by rw [z]; exact hm)
    have ih := way_le (T := T) (n := n) (g := g) f v (s ++ [v]) (w :: l) (by simpa using hf) (by simp) nd'.2 hg (fun u hu => hn u (List.mem_cons_of_mem _ hu)) (fun u hu ug q => by
      rcases List.mem_append.mp q with q | q
      · exact hs u (List.mem_cons_of_mem _ hu) ug q
      · have : u = v := by simpa using q
        exact nd'.1 (by rw [← this]; exact hu)) (List.mem_append_right _ List.mem_cons_self) (fun z => nd'.1 (by rw [z]; exact List.mem_cons_self))
    have key : Le (way T n g (f + 1) h s) (adO (T h v) (way T n g f v (s ++ [v]))) := by
      refine lsM_le (List.mem_map.mpr ⟨v, List.mem_range.mpr (hn v List.mem_cons_self), ?_⟩)
      rw [if_neg vh, if_neg vg, if_neg vs]
    exact key.trans (adO_mono (Le.refl _) ih)
/-! ### ways and closing -/
theorem sm_ge {T C : Mx} {n : Nat} (hC : Cz n C) (le : ∀ i < n, ∀ j < n, Le (C i j) (T i j)) : ∀ (i : Nat) (l : List Nat), i < n → (∀ v ∈ l, v < n) → Le (C i (lst i l)) (sm T i l)
  | i, [], hi, _ => by
    show Le (C i i) (some 0)
    rw [hC.z i hi]
    exact Le.refl _
  | i, v :: l, hi, h => by
    have hv := h v List.mem_cons_self
    have hl : lst v l < n := by
      cases l with
      | nil => exact hv
      | cons w l => exact h _ (List.mem_cons_of_mem _ (lst_mem v (w :: l) (by simp)))
    exact (hC.t i hi _ hl v hv).trans (adO_mono (le i hi v hv) (sm_ge hC le v l hv fun u hu => h u (List.mem_cons_of_mem _ hu)))
/-- each bound is a way's sum -/
def Att (n : Nat) (T M : Mx) : Prop := ∀ i < n, ∀ j < n, ∀ c, M i j = some c → ∃ l, l ≠ [] ∧ (∀ v ∈ l, v < n) ∧ lst i l = j ∧ sm T i l = some c
theorem att_self (n : Nat) (T : Mx) : Att n T T := fun i _ j hj c e => ⟨[j], by simp, fun v hv => by
  have : v = j := by simpa using hv
  rw [this]; exact hj, rfl, by
  show adO (T i j) (some 0) = some c
  rw [ad_0, e]⟩
theorem Att.stI {n b i : Nat} {T M : Mx} (h : Att n T M) (hb : b < n) (hi : i < n) : Att n T (stI b i M) := by
  intro r hr c hc x e
  unfold MG.stI at e
  by_cases q : r = i
  · rw [if_pos q] at e
    subst q
    rcases les_or (M r c) (adO (M r b) (M b c)) with z | z
    · rw [z] at e
      exact h r hr c hc x e
    · rw [z] at e
      obtain ⟨u, v, e1, e2, rfl⟩ := ad_inv e
      obtain ⟨l1, a1, b1, c1, d1⟩ := h r hr b hb u e1
      obtain ⟨l2, a2, b2, c2, d2⟩ := h b hb c hc v e2
      refine ⟨l1 ++ l2, by simp [a1], fun w hw => ?_, by rw [lst_app, c1, c2], ?_⟩
      · rcases List.mem_append.mp hw with hw | hw
        · exact b1 w hw
        · exact b2 w hw
      · rw [sm_app, c1, d1, d2]
        rfl
  · rw [if_neg q] at e
    exact h r hr c hc x e
theorem Att.stB {n b : Nat} {T M : Mx} (h : Att n T M) (hb : b < n) : ∀ i, i ≤ n → Att n T (stB b M i)
  | 0, _ => h
  | i + 1, hi => (Att.stB h hb i (by omega)).stI hb (by omega)
theorem att_clo (n : Nat) (T : Mx) : ∀ b, b ≤ n → Att n T (clo n T b)
  | 0, _ => att_self n T
  | b + 1, hb => (att_clo n T b (by omega)).stB (by omega) n (Nat.le_refl n)
/-! ### nothing twice -/
theorem twice : ∀ {l : List Nat}, ¬ l.Nodup → ∃ a x b c, l = (a ++ [x]) ++ ((b ++ [x]) ++ c)
  | [], h => absurd List.nodup_nil h
  | y :: t, h => by
    by_cases hy : y ∈ t
    · obtain ⟨b, c, rfl⟩ := List.append_of_mem hy
      exact ⟨[], y, b, c, by simp⟩
    · obtain ⟨a, x, b, c, e⟩ := twice (l := t) fun z => h (List.nodup_cons.mpr ⟨hy, z⟩)
      exact ⟨y :: a, x, b, c, by rw [e]; simp⟩
theorem few : ∀ (n : Nat) (l : List Nat), l.Nodup → (∀ v ∈ l, v < n) → l.length ≤ n
  | 0, [], _, _ => Nat.le_refl _
  | 0, v :: _, _, h => absurd (h v List.mem_cons_self) (by omega)
  | n + 1, l, nd, h => by
    by_cases hn : n ∈ l
    · obtain ⟨a, b, rfl⟩ := List.append_of_mem hn
      have p : (a ++ n :: b).Perm (n :: (a ++ b)) := List.perm_middle
      have nd2 := List.nodup_cons.mp (p.nodup_iff.mp nd)
      have := few n (a ++ b) nd2.2 fun v hv => by
        have h1 := h v (p.mem_iff.mpr (List.mem_cons_of_mem _ hv))
        have h2 : v ≠ n := fun z => nd2.1 (by rw [← z]; exact hv)
        omega
      rw [p.length_eq, List.length_cons]
      omega
    · have := few n l nd fun v hv => by
        have h1 := h v hv
        have h2 : v ≠ n := fun z => hn (by rw [← z]; exact hv)
        omega
      omega
theorem lst_snoc (i : Nat) (a : List Nat) (x : Nat) : lst i (a ++ [x]) = x := by rw [lst_app]; rfl
/-- a way that meets x twice: a ring and the rest -/
theorem cut_ring {T : Mx} {i x : Nat} {a b c : List Nat} {t : Int} (h : sm T i ((a ++ [x]) ++ ((b ++ [x]) ++ c)) = some t) :
    ∃ r z, sm T x (b ++ [x]) = some r ∧ sm T i ((a ++ [x]) ++ c) = some z ∧ t = r + z := by
  rw [sm_app T i (a ++ [x]) ((b ++ [x]) ++ c), lst_snoc, sm_app T x (b ++ [x]) c, lst_snoc] at h
  obtain ⟨u, w, e1, e2, rfl⟩ := ad_inv h
  obtain ⟨r, v, e3, e4, rfl⟩ := ad_inv e2
  refine ⟨r, u + v, e3, ?_, by omega⟩
  rw [sm_app T i (a ++ [x]) c, lst_snoc, e1, e4]
  rfl
theorem shorten {T : Mx} {n : Nat} (hn : ∀ i < n, ∀ l : List Nat, (∀ v ∈ l, v < n) → lst i l = i → ∀ c, sm T i l = some c → 0 ≤ c) {i : Nat} (hi : i < n) :
    ∀ (m : Nat) (l : List Nat), l.length ≤ m → (∀ v ∈ l, v < n) → ∀ c, sm T i l = some c → ∃ l', (i :: l').Nodup ∧ (∀ v ∈ l', v < n) ∧ lst i l' = lst i l ∧ ∃ d, d ≤ c ∧ sm T i l' = some d
  | m, l, hm, hv, c, e => by
    by_cases nd : (i :: l).Nodup
    · exact ⟨l, nd, hv, rfl, c, Int.le_refl _, e⟩
    · by_cases hil : i ∈ l
      · obtain ⟨a, b, rfl⟩ := List.append_of_mem hil
        have es : a ++ i :: b = (a ++ [i]) ++ b := by simp
        rw [es] at e hv hm ⊢
        rw [sm_app, lst_snoc] at e
        obtain ⟨r, z, e1, e2, rfl⟩ := ad_inv e
        have p := hn i hi (a ++ [i]) (fun v h => hv v (List.mem_append_left _ h)) (lst_snoc _ _ _) r e1
        cases m with
        | zero => simp at hm
        | succ m =>
          obtain ⟨l', f1, f2, f3, d, f4, f5⟩ := shorten hn hi m b (by simp at hm; omega) (fun v h => hv v (List.mem_append_right _ h)) z e2
          refine ⟨l', f1, f2, ?_, d, by omega, f5⟩
          rw [f3, lst_app (b := b), lst_snoc]
      · obtain ⟨a, x, b, c', el⟩ := twice (l := l) fun q => nd (List.nodup_cons.mpr ⟨hil, q⟩)
        rw [el] at e hv hm ⊢
        obtain ⟨r, z, e1, e2, rfl⟩ := cut_ring e
        have hx : x < n := hv x (by simp)
        have p := hn x hx (b ++ [x]) (fun v h => hv v (List.mem_append_right _ (List.mem_append_left _ h))) (lst_snoc _ _ _) r e1
        cases m with
        | zero => simp at hm
        | succ m =>
          obtain ⟨l', f1, f2, f3, d, f4, f5⟩ := shorten hn hi m ((a ++ [x]) ++ c') (by simp at hm ⊢; omega) (fun v h => by
            rcases List.mem_append.mp h with h | h
            · exact hv v (List.mem_append_left _ h)
            · exact hv v (List.mem_append_right _ (List.mem_append_right _ h))) z e2
          refine ⟨l', f1, f2, ?_, d, by omega, f5⟩
          rw [f3, lst_app i (a ++ [x]) c', lst_app i (a ++ [x]) ((b ++ [x]) ++ c'), lst_app _ (b ++ [x]) c', lst_snoc, lst_snoc]
theorem ring_one {T : Mx} {n : Nat} : ∀ (m i : Nat) (l : List Nat), l.length ≤ m → i < n → (∀ v ∈ l, v < n) → l ≠ [] → lst i l = i → ∀ c, sm T i l = some c → c < 0 → ∃ j l' d, j < n ∧ l' ≠ [] ∧ l'.Nodup ∧ (∀ v ∈ l', v < n) ∧ lst j l' = j ∧ sm T j l' = some d ∧ d < 0
  | m, i, l, hm, hi, hv, hl, hr, c, e, hc => by
    by_cases nd : l.Nodup
    · exact ⟨i, l, c, hi, hl, nd, hv, hr, e, hc⟩
    · obtain ⟨a, x, b, c', el⟩ := twice nd
      rw [el] at e hv hm hr
      obtain ⟨r, z, e1, e2, rfl⟩ := cut_ring e
      have hx : x < n := hv x (by simp)
      cases m with
      | zero => simp at hm
      | succ m =>
        by_cases q : r < 0
        · exact ring_one m x (b ++ [x]) (by simp at hm ⊢; omega) hx (fun v h => hv v (List.mem_append_right _ (List.mem_append_left _ h))) (by simp) (lst_snoc _ _ _) r e1 q
        · refine ring_one m i ((a ++ [x]) ++ c') (by simp at hm ⊢; omega) hi (fun v h => by
            rcases List.mem_append.mp h with h | h
            · exact hv v (List.mem_append_left _ h)
            · exact hv v (List.mem_append_right _ (List.mem_append_right _ h))) (by simp) ?_ z e2 (by omega)
          rw [lst_app i (a ++ [x]) ((b ++ [x]) ++ c'), lst_app _ (b ++ [x]) c', lst_snoc] at hr
          rw [lst_app i (a ++ [x]) c', lst_snoc]
          exact hr
/-! ### what the ways tell -/
theorem rings_nn {n : Nat} {T : Mx} (h0 : ∀ i < n, T i i = some 0) (hd : ∀ i < n, Nn (clo n T n i i)) : ∀ i < n, ∀ l : List Nat, (∀ v ∈ l, v < n) → lst i l = i → ∀ c, sm T i l = some c → 0 ≤ c := fun i hi l hv hr c e => by
  have cz := clo_Cz h0 hd
  have := sm_ge cz (fun i _ j _ => clo_le n T n i j) i l hi hv
  rw [hr, cz.z i hi] at this
  obtain ⟨a, ea, la⟩ := this c e
  cases ea
  exact la
theorem way_clo {n : Nat} {T : Mx} (h0 : ∀ i < n, T i i = some 0) (hd : ∀ i < n, Nn (clo n T n i i)) {i j : Nat} (hi : i < n) (hj : j < n) (ij : i ≠ j) : way T n j n i [i] = clo n T n i j := by
  have cz := clo_Cz h0 hd
  refine Le.antisymm (fun c e => ?_) (way_ge hj cz.t (fun i _ j _ => clo_le n T n i j) n i [i] hi)
  obtain ⟨l, a1, a2, a3, a4⟩ := att_clo n T n (Nat.le_refl n) i hi j hj c e
  obtain ⟨l', f1, f2, f3, d, f4, f5⟩ := shorten (rings_nn h0 hd) hi l.length l (Nat.le_refl _) a2 c a4
  have nd := List.nodup_cons.mp f1
  have ln : l' ≠ [] := fun z => ij (by
    rw [z, a3] at f3
    exact f3)
  have := way_le (T := T) (n := n) (g := j) n i [i] l' (few n l' nd.2 f2) ln nd.2 (f3.trans a3) f2 (fun v hv _ q => nd.1 (by
    have : v = i := by simpa using q
    rw [← this]; exact hv)) List.mem_cons_self (fun z => nd.1 (by rw [z]; exact List.mem_cons_self))
  obtain ⟨a, ea, la⟩ := this d f5
  exact ⟨a, ea, by omega⟩
theorem way_nn {n : Nat} {T : Mx} (h0 : ∀ i < n, T i i = some 0) (hd : ∀ i < n, Nn (clo n T n i i)) {i : Nat} (hi : i < n) : Nn (way T n i n i [i]) := by
  have cz := clo_Cz h0 hd
  have := way_ge hi cz.t (fun i _ j _ => clo_le n T n i j) n i [i] hi
  rw [cz.z i hi] at this
  intro c e
  obtain ⟨a, ea, la⟩ := this c e
  cases ea
  exact la
theorem way_neg {n : Nat} {T : Mx} (h0 : ∀ i < n, T i i = some 0) (h : ∃ i < n, ∃ c, clo n T n i i = some c ∧ c < 0) : ∃ i < n, ∃ c, way T n i n i [i] = some c ∧ c < 0 := by
  obtain ⟨i, hi, c, e, hc⟩ := h
  obtain ⟨l, a1, a2, a3, a4⟩ := att_clo n T n (Nat.le_refl n) i hi i hi c e
  obtain ⟨j, l', d, hj, b1, b2, b3, b4, b5, b6⟩ := ring_one l.length i l (Nat.le_refl _) hi a2 a1 a3 c a4 hc
  refine ⟨j, hj, ?_⟩
  have := way_le (T := T) (n := n) (g := j) n j [j] l' (few n l' b2 b3) b1 b2 b4 b3 (fun v hv vj q => vj (by simpa using q)) List.mem_cons_self (fun z => by
    rw [z] at b5
    have b5 : adO (T j j) (some 0) = some d := b5
    rw [ad_0, h0 j hj] at b5
    cases b5
    omega)
  obtain ⟨a, ea, la⟩ := this d b5
  exact ⟨a, ea, by omega⟩
end MG

/-! PF: gaps, closed, for any law's text. -/
namespace PF
open PySem MG
def rowO (n : Nat) (M : Mx) (i : Nat) : List OV := (List.range n).map fun j => .fz (oi (M i j))
def tblO (n : Nat) (M : Mx) : List OV := (List.range n).map fun i => .ol (rowO n M i)
theorem rowO_len (n : Nat) (M : Mx) (i : Nat) : (rowO n M i).length = n := by unfold rowO; rw [List.length_map, List.length_range]
theorem tblO_len (n : Nat) (M : Mx) : (tblO n M).length = n := by unfold tblO; rw [List.length_map, List.length_range]
theorem rowO_at {n i j : Nat} {M : Mx} (h : j < n) : (rowO n M i)[j]? = some (.fz (oi (M i j))) := by
  unfold rowO
  rw [List.getElem?_map, List.getElem?_range h]
  rfl
theorem tblO_at {n i : Nat} {M : Mx} (h : i < n) : (tblO n M)[i]? = some (.ol (rowO n M i)) := by
  unfold tblO
  rw [List.getElem?_map, List.getElem?_range h]
  rfl
theorem row_congr {n : Nat} {M N : Mx} {i : Nat} (h : ∀ j < n, M i j = N i j) : rowO n M i = rowO n N i := by
  unfold rowO
  apply List.map_congr_left
  intro j hj
  rw [h j (List.mem_range.mp hj)]
theorem tbl_congr {n : Nat} {M N : Mx} (h : ∀ i < n, ∀ j < n, M i j = N i j) : tblO n M = tblO n N := by
  unfold tblO
  apply List.map_congr_left
  intro i hi
  rw [row_congr (h i (List.mem_range.mp hi))]
def up1 (M : Mx) (i j : Nat) (v : Option Int) : Mx := fun r c => if r = i ∧ c = j then v else M r c
theorem tbl_set {n i j : Nat} {M : Mx} (hi : i < n) (hj : j < n) (v : Option Int) : (tblO n M).set i (.ol ((rowO n M i).set j (.fz (oi v)))) = tblO n (up1 M i j v) := by
  apply List.ext_getElem?
  intro r
  by_cases hr : r < n
  · rw [tblO_at hr]
    by_cases e : i = r
    · subst e
      rw [List.getElem?_set_self (by rw [tblO_len]; exact hi)]
      congr 2
      apply List.ext_getElem?
      intro c
      by_cases hc : c < n
      · rw [rowO_at hc]
        by_cases e2 : j = c
        · subst e2
          rw [List.getElem?_set_self (by rw [rowO_len]; exact hj)]
          unfold up1
          rw [if_pos ⟨rfl, rfl⟩]
        · rw [List.getElem?_set_ne e2, rowO_at hc]
          unfold up1
          rw [if_neg (by omega)]
      · rw [List.getElem?_eq_none (by rw [List.length_set, rowO_len]; omega), List.getElem?_eq_none (by rw [rowO_len]; omega)]
    · rw [List.getElem?_set_ne e, tblO_at hr]
      congr 2
      apply row_congr
      intro c _
      unfold up1
      rw [if_neg (by omega)]
  · rw [List.getElem?_eq_none (by rw [List.length_set, tblO_len]; omega), List.getElem?_eq_none (by rw [tblO_len]; omega)]
/-- the row i, up to its item j -/
def inn (b i : Nat) (M : Mx) : Nat → Mx
  | 0 => M
  | j + 1 => up1 (inn b i M j) i j (les (inn b i M j i j) (adO (M i b) (inn b i M j b j)))
theorem inn_eq (b i : Nat) (M : Mx) : ∀ (j r c : Nat), inn b i M j r c = if r = i ∧ c < j then les (M i c) (adO (M i b) (M b c)) else M r c
  | 0, r, c => by rw [if_neg (by omega)]; rfl
  | j + 1, r, c => by
    have ih := inn_eq b i M j
    show (if r = i ∧ c = j then les (inn b i M j i j) (adO (M i b) (inn b i M j b j)) else inn b i M j r c) = _
    by_cases h : r = i ∧ c = j
    · rw [if_pos h, if_pos ⟨h.1, by omega⟩, ih, ih, if_neg (by omega), if_neg (by omega), h.2]
    · rw [if_neg h, ih]
      by_cases h2 : r = i ∧ c < j
      · rw [if_pos h2, if_pos ⟨h2.1, by omega⟩]
      · rw [if_neg h2, if_neg (by omega)]
theorem inn_end {n b i : Nat} (M : Mx) : tblO n (inn b i M n) = tblO n (MG.stI b i M) := by
  apply tbl_congr
  intro r _ c hc
  rw [inn_eq]
  unfold MG.stI
  by_cases h : r = i
  · rw [if_pos ⟨h, hc⟩, if_pos h]
  · rw [if_neg (by omega), if_neg h]
theorem up1_id (M : Mx) (i j : Nat) : up1 M i j (M i j) = M := by
  funext r c
  unfold up1
  split
  · rename_i h; rw [h.1, h.2]
  · rfl
def fLesser : Fn := ⟨2, 2, [], (.cons (.iff (.orr (.isn false (.v 0)) (.isn false (.v 1))) (.cons (.ret (.ite (.isn false (.v 0)) (.v 1) (.v 0))) .nil) .nil) (.cons (.ret (.blt .min (.cons (.v 0) (.cons (.v 1) .nil)))) .nil))⟩
def bJ (l : Nat) : Ss := (.cons (.asg true (.nm 6) (.idxOO 0 (.v 2) (.v 5))) (.cons (.iff (.an (.isn true (.v 4)) (.isn true (.v 6))) (.cons (.setOO 0 (.v 3) (.v 5) (.call l (.ev (.idxOO 0 (.v 3) (.v 5)) (.ev (.bin .add (.v 4) (.v 6)) .nil)))) .nil) .nil) .nil))
def bI (l : Nat) : Ss := (.cons (.asg true (.nm 4) (.idxOO 0 (.v 3) (.v 2))) (.cons (.for_ (.nm 5) (.rng1 (.v 1)) (bJ l)) .nil))
def bB (l : Nat) : Ss := (.cons (.for_ (.nm 3) (.rng1 (.v 1)) (bI l)) .nil)
def fClose (l : Nat) : Fn := ⟨1, 7, [0], (.cons (.asg true (.nm 1) (.lenO 0)) (.cons (.for_ (.nm 2) (.rng1 (.v 1)) (bB l)) .nil))⟩
def fWith : Fn := ⟨2, 6, [], (.cons (.asg false (.nm 2) (.lc [5, 4] (.tp (.cons (.nm 5) (.cons (.nm 4) .nil))) (.zip (.v 0) (.v 1)) (.c (.bool true)) (.bin .add (.blt .list (.cons (.v 5) .nil)) (.lst (.cons (.idx (.v 4) (.c (.int 1))) .nil))))) (.cons (.asg true (.nm 3) (.lc [4] (.nm 4) (.seq (.v 1)) (.c (.bool true)) (.ite (.isn false (.idx (.v 4) (.c (.int 0)))) (.c .none) (.neg (.idx (.v 4) (.c (.int 0))))))) (.cons (.ret (.cat (.mv 2) (.lst (.cons (.bin .add (.v 3) (.lst (.cons (.c (.int 0)) .nil))) .nil)))) .nil)))⟩
def fClosed (w c : Nat) : Fn := ⟨2, 9, [], (.cons (.par [(3, false), (4, true)] (.cons (.call w (.ev (.v 0) (.ev (.v 1) .nil))) (.cons (.blt .len (.cons (.v 0) .nil)) .nil))) (.cons (.ex (.call c (.io 3 .nil))) (.cons (.frz 3) (.cons (.iff (.blt .any (.cons (.lc [6] (.nm 6) (.rng1 (.bin .add (.v 4) (.c (.int 1)))) (.c (.bool true)) (.cmp .lt (.idx (.idx (.v 3) (.v 6)) (.v 6)) (.c (.int 0)))) .nil)) (.cons (.ret (.c .none)) .nil) .nil) (.cons (.asg true (.nm 2) (.lc [5] (.nm 5) (.seq (.slc (.idx (.v 3) (.v 4)) .no (.ye (.v 4)))) (.c (.bool true)) (.ite (.isn false (.v 5)) (.c .none) (.neg (.v 5))))) (.cons (.ret (.tup (.cons (.blt .tuple (.cons (.lc [7] (.nm 7) (.seq (.slc (.v 3) .no (.ye (.v 4)))) (.c (.bool true)) (.blt .tuple (.cons (.slc (.v 7) .no (.ye (.v 4))) .nil))) .nil)) (.cons (.lc [8, 7] (.tp (.cons (.nm 8) (.cons (.nm 7) .nil))) (.zip (.v 2) (.v 3)) (.c (.bool true)) (.tup (.cons (.v 8) (.cons (.idx (.v 7) (.v 4)) .nil)))) .nil)))) .nil))))))⟩
theorem ev_ty {C : Ctx} {x : OV} : True := trivial
local macro_rules | `(tactic| walk_at "ev") => `(tactic| simp only [xRun, startE, List.map_cons, List.map_nil, List.length_cons, List.length_nil, Nat.zero_add, Nat.reduceAdd, Nat.reduceSub, decide_true, List.cons_append, List.nil_append, List.append_nil, List.getElem?_cons_zero, List.getElem?_cons_succ, List.replicate, List.set_cons_zero, List.set_cons_succ, Int.cast_ofNat_Int, Int.reduceToNat, Int.reduceLE, Int.reduceLT, Int.reducePow, Int.reduceNeg, Int.reduceAdd, Int.reduceSub, Int.reduceMul, Int.reduceBEq, Int.reduceBNe, if_true, if_false, ↓reduceIte, Int.toNat_zero, List.not_mem_nil, not_false_eq_true, List.any_cons, List.any_nil, Bool.or_true, Bool.true_or, Bool.or_false, Bool.false_or, Bool.not_true, Bool.not_false, Bool.and_true, Bool.true_and, Bool.and_false, Bool.false_and, Nat.reduceLT, Nat.reduceLeDiff, bne_self_eq_false, Int.toNat_natCast, beq_self_eq_true, ds_fzs, Bool.false_eq_true, List.isEmpty_cons, List.isEmpty_nil, decide_false, wB0, wB1, wB2, wB3, wB4, wFor, wLcY, wLcX, wLc2, wZip, wZipM, wLz, wMm, wCmp, wSlc, wIdx, q_abs_int, q_add_list, q_add_tup, q_bT_tl, q_bT_tp, q_items_t, q_ix, q_mul_list, q_mul_tup, oi_n, oi_s, *])
section
variable {F : List Fn}
theorem lesser_spec {g : Nat} (h : F[g]? = some fLesser) (W n : Nat) (a b : Option Int) : evF F W (n + 1) g [.fz (oi a), .fz (oi b)] = some (.fz (oi (les a b)), []) := by
  rw [ev_call h]
  unfold fLesser
  clear h
  cases a <;> cases b <;> unfold les <;> walk_at "ev"
end
/-- lesser, as it is called -/
def LesOk (C : Ctx) (l : Nat) : Prop := ∀ (a : Option Int) (z : Int), C.call l [.fz (oi a), oI z] = some (.fz (oi (les a (some z))), [])
theorem turnJ {C : Ctx} {l : Nat} (hl : LesOk C l) {n b i j : Nat} (hb : b < n) (hi : i < n) (hj : j < n) (M N : Mx) (o5 o6 : Option OV) : ∃ o5' o6', turn C (.nm 5) (bJ l) (.int j) [some (.ol (tblO n N)), some (oI n), some (oI b), some (oI i), some (.fz (oi (M i b))), o5, o6] = some (.nx [some (.ol (tblO n (up1 N i j (les (N i j) (adO (M i b) (N b j)))))), some (oI n), some (oI b), some (oI i), some (.fz (oi (M i b))), o5', o6']) := by
  have A1 : atD (tblO n N) (b : Int) = some (.ol (rowO n N b)) := at_nat (tblO_at hb)
  have A2 : atD (rowO n N b) (j : Int) = some (.fz (oi (N b j))) := at_nat (rowO_at hj)
  have A3 : atD (tblO n N) (i : Int) = some (.ol (rowO n N i)) := at_nat (tblO_at hi)
  have A4 : atD (rowO n N i) (j : Int) = some (.fz (oi (N i j))) := at_nat (rowO_at hj)
  have A5 : ixN (tblO n N).length (i : Int) = some i := ix_nat (by rw [tblO_len]; exact hi)
  have A6 : (tblO n N)[i]? = some (.ol (rowO n N i)) := tblO_at hi
  have A7 : ixN (rowO n N i).length (j : Int) = some j := ix_nat (by rw [rowO_len]; exact hj)
  cases h1 : M i b with
  | none =>
    have e : up1 N i j (les (N i j) (adO none (N b j))) = N := by
      show up1 N i j (les (N i j) none) = N
      rw [les_none, up1_id]
    rw [e]
    refine ⟨some (oI j), some (.fz (oi (N b j))), ?_⟩
    clear e A3 A4 A5 A6 A7 hb hi hj h1
    unfold bJ
    walk_at "ev"
  | some x =>
    cases h2 : N b j with
    | none =>
      have e : up1 N i j (les (N i j) (adO (some x) none)) = N := by
        show up1 N i j (les (N i j) none) = N
        rw [les_none, up1_id]
      rw [e]
      refine ⟨some (oI j), some (.fz .none), ?_⟩
      rw [h2] at A2
      clear e A3 A4 A5 A6 A7 hb hi hj h1 h2
      unfold bJ
      simp only [oi_n] at A2
      walk_at "ev"
    | some y =>
      have A8 := tbl_set (M := N) hi hj (les (N i j) (some (x + y)))
      have A9 := hl (N i j) (x + y)
      refine ⟨some (oI j), some (oI y), ?_⟩
      rw [h2] at A2
      show _ = some (Fl.nx [some (.ol (tblO n (up1 N i j (les (N i j) (some (x + y)))))), _, _, _, _, _, _])
      clear hb hi hj h1 h2 hl
      unfold bJ
      simp only [oi_s] at A2
      generalize N i j = Nij at *
      generalize tblO n (up1 N i j (les Nij (some (x + y)))) = RR at *
      walk_at "ev"
theorem loopJ {C : Ctx} {l : Nat} (hl : LesOk C l) {n b i : Nat} (hb : b < n) (hi : i < n) (M : Mx) (o5 o6 : Option OV) : ∃ o5' o6', forX C (.nm 5) (bJ l) (rangeD 0 n) [some (.ol (tblO n M)), some (oI n), some (oI b), some (oI i), some (.fz (oi (M i b))), o5, o6] = some (.nx [some (.ol (tblO n (MG.stI b i M))), some (oI n), some (oI b), some (oI i), some (.fz (oi (M i b))), o5', o6']) := by
  obtain ⟨ρ', ⟨o5', o6', rfl⟩, e⟩ := forX_range (C := C) (t := .nm 5) (b := bJ l) (n := n) (fun j ρ => ∃ o5 o6, ρ = [some (.ol (tblO n (inn b i M j))), some (oI n), some (oI b), some (oI i), some (.fz (oi (M i b))), o5, o6]) (fun j hj ρ => by
    rintro ⟨o5, o6, rfl⟩
    obtain ⟨p, q, e⟩ := turnJ hl hb hi hj M (inn b i M j) o5 o6
    exact ⟨_, ⟨p, q, rfl⟩, e⟩) (ρ := [some (.ol (tblO n M)), some (oI n), some (oI b), some (oI i), some (.fz (oi (M i b))), o5, o6]) ⟨o5, o6, rfl⟩
  rw [inn_end] at e
  exact ⟨o5', o6', e⟩
theorem rng_nat {n : Nat} (h : n ≤ 1000000) : rngOk (n : Int) = true := by
  unfold rngOk
  rw [decide_eq_true (by omega), decide_eq_true (by omega)]
  rfl
theorem loopI {C : Ctx} {l : Nat} (hl : LesOk C l) {n b : Nat} (hn : n ≤ 1000000) (hb : b < n) (M : Mx) (o3 o4 o5 o6 : Option OV) : ∃ o3' o4' o5' o6', forX C (.nm 3) (bI l) (rangeD 0 n) [some (.ol (tblO n M)), some (oI n), some (oI b), o3, o4, o5, o6] = some (.nx [some (.ol (tblO n (stB b M n))), some (oI n), some (oI b), o3', o4', o5', o6']) := by
  obtain ⟨ρ', ⟨o3', o4', o5', o6', rfl⟩, e⟩ := forX_range (C := C) (t := .nm 3) (b := bI l) (n := n) (fun i ρ => ∃ o3 o4 o5 o6, ρ = [some (.ol (tblO n (stB b M i))), some (oI n), some (oI b), o3, o4, o5, o6]) (fun i hi ρ => by
    rintro ⟨o3, o4, o5, o6, rfl⟩
    obtain ⟨p, q, e⟩ := loopJ hl hb hi (stB b M i) o5 o6
    have e9 : stB b M (i + 1) = MG.stI b i (stB b M i) := rfl
    refine ⟨_, ⟨some (oI i), some (.fz (oi (stB b M i i b))), p, q, rfl⟩, ?_⟩
    rw [e9]
    generalize stB b M i = N at *
    have A1 : atD (tblO n N) (i : Int) = some (.ol (rowO n N i)) := at_nat (tblO_at hi)
    have A2 : atD (rowO n N i) (b : Int) = some (.fz (oi (N i b))) := at_nat (rowO_at hb)
    have A3 := rng_nat hn
    clear hl hn hb hi e9
    unfold bI
    walk_at "ev") (ρ := [some (.ol (tblO n M)), some (oI n), some (oI b), o3, o4, o5, o6]) ⟨o3, o4, o5, o6, rfl⟩
  exact ⟨o3', o4', o5', o6', e⟩
theorem loopB {C : Ctx} {l : Nat} (hl : LesOk C l) {n : Nat} (hn : n ≤ 1000000) (M : Mx) : ∃ o2 o3 o4 o5 o6, forX C (.nm 2) (bB l) (rangeD 0 n) [some (.ol (tblO n M)), some (oI n), none, none, none, none, none] = some (.nx [some (.ol (tblO n (clo n M n))), some (oI n), o2, o3, o4, o5, o6]) := by
  obtain ⟨ρ', ⟨o2', o3', o4', o5', o6', rfl⟩, e⟩ := forX_range (C := C) (t := .nm 2) (b := bB l) (n := n) (fun b ρ => ∃ o2 o3 o4 o5 o6, ρ = [some (.ol (tblO n (clo n M b))), some (oI n), o2, o3, o4, o5, o6]) (fun b hb ρ => by
    rintro ⟨o2, o3, o4, o5, o6, rfl⟩
    obtain ⟨p3, p4, p5, p6, e⟩ := loopI hl hn hb (clo n M b) o3 o4 o5 o6
    have e9 : clo n M (b + 1) = stB b (clo n M b) n := rfl
    refine ⟨_, ⟨some (oI b), p3, p4, p5, p6, rfl⟩, ?_⟩
    rw [e9]
    generalize clo n M b = N at *
    have A3 := rng_nat hn
    clear hl hn hb e9
    unfold bB
    walk_at "ev") (ρ := [some (.ol (tblO n M)), some (oI n), none, none, none, none, none]) ⟨none, none, none, none, none, rfl⟩
  exact ⟨o2', o3', o4', o5', o6', e⟩
section
variable {F : List Fn}
theorem close_spec {g l : Nat} (h : F[g]? = some (fClose l)) (hl : F[l]? = some fLesser) (W k : Nat) {n : Nat} (hn : n ≤ 1000000) (M : Mx) : evF F W (k + 2) g [.ol (tblO n M)] = some (.fz .none, [.ol (tblO n (clo n M n))]) := by
  have L : LesOk ⟨evF F W (k + 1), W⟩ l := fun a z => lesser_spec hl W k a (some z)
  obtain ⟨o2, o3, o4, o5, o6, e⟩ := loopB L hn M
  have A3 := rng_nat hn
  have A4 := tblO_len n M
  rw [ev_call h]
  clear h hl L hn
  unfold fClose
  walk_at "ev"
end
end PF

/-! PF: with_spans, gaps_closed, for any law's text. -/
namespace PF
open PySem MG
def sqD : Bool → List D → D
  | true, xs => .list xs
  | false, xs => .tuple xs
theorem sq_items (b : Bool) (xs : List D) : itemsD (sqD b xs) = some xs := by cases b <;> rfl
theorem sq_zip (b c : Bool) (xs ys : List D) : zipD2 (sqD b xs) (sqD c ys) = some (zipD xs ys) := by cases b <;> cases c <;> rfl
theorem sq_len (b : Bool) (xs : List D) : bltD .len [sqD b xs] = some (.fz (.int xs.length)) := by cases b <;> rfl
theorem sq_list (b : Bool) (xs : List D) : bltD .list [sqD b xs] = some (.ol (fzs xs)) := by cases b <;> rfl
theorem sq_idx (b : Bool) (xs : List D) (i : Int) : idxD (sqD b xs) (.int i) = atD xs i := by cases b <;> rfl
theorem zip_rng (k : Nat) (f g : Nat → D) : zipD ((List.range k).map f) ((List.range k).map g) = (List.range k).map fun i => .tuple [f i, g i] := by
  unfold zipD
  rw [List.zipWith_map_left, List.zipWith_map_right]
  apply List.ext_getElem
  · simp
  · intro i h1 h2
    simp
theorem zip_rng1 (k : Nat) (f g : Nat → D) : zipD ((List.range k).map f) ((List.range (k + 1)).map g) = (List.range k).map fun i => .tuple [f i, g i] := by
  unfold zipD
  rw [List.zipWith_map_left, List.zipWith_map_right]
  apply List.ext_getElem
  · simp
  · intro i h1 h2
    simp
theorem ds_rng (k : Nat) (f : Nat → OV) : OV.ds ((List.range k).map f) = (List.range k).map fun i => (f i).d := by
  rw [OV.ds_map, List.map_map]
  rfl
theorem fzs_rng (k : Nat) (f : Nat → D) : fzs ((List.range k).map f) = (List.range k).map fun i => .fz (f i) := by
  unfold fzs
  rw [List.map_map]
  rfl
theorem cut_rng (k : Nat) (f : Nat → D) : cutD ((List.range (k + 1)).map f) none (some (k : Int)) = (List.range k).map f := by
  unfold cutD
  rw [HT.sIx_none, HT.sIx_nat, List.length_map, List.length_range, Nat.min_eq_left (Nat.le_succ k), List.drop_zero, Nat.sub_zero, ← List.map_take, List.take_range, Nat.min_eq_left (Nat.le_succ k)]
theorem at_rng {k i : Nat} (h : i < k) (f : Nat → D) : atD ((List.range k).map f) (i : Int) = some (f i) := at_nat (by rw [List.getElem?_map, List.getElem?_range h]; rfl)
theorem len_rng {α : Type} (k : Nat) (f : Nat → α) : ((List.range k).map f).length = k := by rw [List.length_map, List.length_range]
def rowsD (b : Bool) (bs : Nat → Bool) (k : Nat) (g : Mx) : D := sqD b ((List.range k).map fun i => sqD (bs i) ((List.range k).map fun j => oi (g i j)))
def spnD (b : Bool) (bs : Nat → Bool) (k : Nat) (lo hi : Nat → Option Int) : D := sqD b ((List.range k).map fun i => sqD (bs i) [oi (lo i), oi (hi i)])
def ng : Option Int → Option Int
  | none => none
  | some x => some (-x)
/-- one more variable, which is 0 -/
def wsM (k : Nat) (g : Mx) (lo hi : Nat → Option Int) : Mx := fun i j => if i < k then (if j < k then g i j else hi i) else if j < k then ng (lo j) else some 0
theorem ws_row {k i : Nat} (hi' : i < k) (g : Mx) (lo hi : Nat → Option Int) : rowO (k + 1) (wsM k g lo hi) i = fzs ((List.range k).map (fun j => oi (g i j)) ++ [oi (hi i)]) := by
  unfold rowO fzs
  rw [List.range_succ, List.map_append, List.map_append, List.map_map]
  congr 1
  · apply List.map_congr_left
    intro j hj
    unfold wsM
    rw [if_pos hi', if_pos (List.mem_range.mp hj)]
    rfl
  · show [OV.fz (oi (wsM k g lo hi i k))] = [OV.fz (oi (hi i))]
    unfold wsM
    rw [if_pos hi', if_neg (Nat.lt_irrefl k)]
theorem ws_last (k : Nat) (g : Mx) (lo hi : Nat → Option Int) : rowO (k + 1) (wsM k g lo hi) k = fzs ((List.range k).map (fun j => oi (ng (lo j))) ++ [.int 0]) := by
  unfold rowO fzs
  rw [List.range_succ, List.map_append, List.map_append, List.map_map]
  congr 1
  · apply List.map_congr_left
    intro j hj
    unfold wsM
    rw [if_neg (Nat.lt_irrefl k), if_pos (List.mem_range.mp hj)]
    rfl
  · show [OV.fz (oi (wsM k g lo hi k k))] = [OV.fz (.int 0)]
    unfold wsM
    rw [if_neg (Nat.lt_irrefl k), if_neg (Nat.lt_irrefl k)]
    rfl
theorem ws_tbl (k : Nat) (g : Mx) (lo hi : Nat → Option Int) : tblO (k + 1) (wsM k g lo hi) = ((List.range k).map fun i => OV.ol (rowO (k + 1) (wsM k g lo hi) i)) ++ [.ol (fzs ((List.range k).map (fun j => oi (ng (lo j))) ++ [.int 0]))] := by
  have e : tblO (k + 1) (wsM k g lo hi) = ((List.range k).map fun i => OV.ol (rowO (k + 1) (wsM k g lo hi) i)) ++ [OV.ol (rowO (k + 1) (wsM k g lo hi) k)] := by
    unfold tblO
    rw [List.range_succ, List.map_append]
    rfl
  rw [e, ws_last]
local macro_rules | `(tactic| walk_at "ev") => `(tactic| simp only [xRun, startE, List.map_cons, List.map_nil, List.length_cons, List.length_nil, Nat.zero_add, Nat.reduceAdd, Nat.reduceSub, decide_true, List.cons_append, List.nil_append, List.append_nil, List.getElem?_cons_zero, List.getElem?_cons_succ, List.replicate, List.set_cons_zero, List.set_cons_succ, Int.cast_ofNat_Int, Int.reduceToNat, Int.reduceLE, Int.reduceLT, Int.reducePow, Int.reduceNeg, Int.reduceAdd, Int.reduceSub, Int.reduceMul, Int.reduceBEq, Int.reduceBNe, if_true, if_false, ↓reduceIte, Int.toNat_zero, List.not_mem_nil, not_false_eq_true, List.any_cons, List.any_nil, Bool.or_true, Bool.true_or, Bool.or_false, Bool.false_or, Bool.not_true, Bool.not_false, Bool.and_true, Bool.true_and, Bool.and_false, Bool.false_and, Nat.reduceLT, Nat.reduceLeDiff, bne_self_eq_false, Int.toNat_natCast, beq_self_eq_true, ds_fzs, Bool.false_eq_true, List.isEmpty_cons, List.isEmpty_nil, decide_false, wB0, wB1, wB2, wB3, wB4, wFor, wLcY, wLcX, wLc2, wZip, wZipM, wLz, wMm, wCmp, wSlc, wIdx, q_abs_int, q_add_list, q_add_tup, q_bT_tl, q_bT_tp, q_items_t, q_ix, q_mul_list, q_mul_tup, oi_n, oi_s, sq_items, sq_zip, sq_len, sq_list, sq_idx, zip_rng, *])
section
variable {F : List Fn}
theorem with_spec {g : Nat} (h : F[g]? = some fWith) (W n : Nat) {k : Nat} (hk : k ≤ 1000) (b c : Bool) (bs cs : Nat → Bool) (gp : Mx) (lo hi : Nat → Option Int) : evF F W (n + 1) g [.fz (rowsD b bs k gp), .fz (spnD c cs k lo hi)] = some (.ol (tblO (k + 1) (wsM k gp lo hi)), []) := by
  rw [ev_call h]
  clear h
  have hS : k < SZ := by unfold SZ; omega
  unfold rowsD spnD
  have e1 : lcY ⟨evF F W n, W⟩ [5, 4] (.tp (.cons (.nm 5) (.cons (.nm 4) .nil))) (.c (.bool true)) (.bin .add (.blt .list (.cons (.v 5) .nil)) (.lst (.cons (.idx (.v 4) (.c (.int 1))) .nil))) ((List.range k).map fun i => PyData.tuple [sqD (bs i) ((List.range k).map fun j => oi (gp i j)), sqD (cs i) [oi (lo i), oi (hi i)]]) [some (.fz (rowsD b bs k gp)), some (.fz (spnD c cs k lo hi)), none, none, none, none] = some (.ol ((List.range k).map fun i => OV.ol (rowO (k + 1) (wsM k gp lo hi) i)), [some (.fz (rowsD b bs k gp)), some (.fz (spnD c cs k lo hi)), none, none, none, none]) := by
    refine lcY_ix hS _ _ fun i hi' => ?_
    rw [ws_row hi']
    have z1 : decide (1 ≤ SZ) = true := by decide
    have z2 : decide (((List.range k).map fun j => oi (gp i j)).length + 1 ≤ SZ) = true := decide_eq_true (by rw [len_rng]; unfold SZ; omega)
    have z3 : atD [oi (lo i), oi (hi i)] 1 = some (oi (hi i)) := rfl
    refine ⟨[some (.fz (rowsD b bs k gp)), some (.fz (spnD c cs k lo hi)), none, none, some (.fz (sqD (cs i) [oi (lo i), oi (hi i)])), some (.fz (sqD (bs i) ((List.range k).map fun j => oi (gp i j))))], ?_, rfl⟩
    clear hi' hS hk
    generalize ((List.range k).map fun j => oi (gp i j)) = RW at *
    walk_at "ev"
  have e2 : lcY ⟨evF F W n, W⟩ [4] (.nm 4) (.c (.bool true)) (.ite (.isn false (.idx (.v 4) (.c (.int 0)))) (.c .none) (.neg (.idx (.v 4) (.c (.int 0))))) ((List.range k).map fun i => sqD (cs i) [oi (lo i), oi (hi i)]) [some (.fz (rowsD b bs k gp)), some (.fz (spnD c cs k lo hi)), some (.ol ((List.range k).map fun i => OV.ol (rowO (k + 1) (wsM k gp lo hi) i))), none, none, none] = some (.ol ((List.range k).map fun j => OV.fz (oi (ng (lo j)))), [some (.fz (rowsD b bs k gp)), some (.fz (spnD c cs k lo hi)), some (.ol ((List.range k).map fun i => OV.ol (rowO (k + 1) (wsM k gp lo hi) i))), none, none, none]) := by
    refine lcY_ix hS _ _ fun i hi' => ?_
    have z3 : atD [oi (lo i), oi (hi i)] 0 = some (oi (lo i)) := rfl
    refine ⟨[some (.fz (rowsD b bs k gp)), some (.fz (spnD c cs k lo hi)), some (.ol ((List.range k).map fun i => OV.ol (rowO (k + 1) (wsM k gp lo hi) i))), none, some (.fz (sqD (cs i) [oi (lo i), oi (hi i)])), none], ?_, rfl⟩
    generalize hi i = HI at *
    generalize ((List.range k).map fun i => OV.ol (rowO (k + 1) (wsM k gp lo hi) i)) = T2 at *
    clear hi' hS hk e1
    cases hl : lo i with
    | none =>
      rw [hl] at z3
      simp only [oi_n] at z3
      show _ = some ([OV.fz .none], _)
      walk_at "ev"
    | some x =>
      rw [hl] at z3
      simp only [oi_s] at z3
      show _ = some ([OV.fz (.int (-x))], _)
      walk_at "ev"
  unfold rowsD spnD at e1 e2
  have z0 : decide (1 ≤ SZ) = true := by decide
  have z1 : decide (((List.range k).map fun j => oi (ng (lo j))).length + 1 ≤ SZ) = true := decide_eq_true (by rw [len_rng]; unfold SZ; omega)
  have z2 : decide (((List.range k).map fun i => OV.ol (rowO (k + 1) (wsM k gp lo hi) i)).length + 1 ≤ SZ) = true := decide_eq_true (by rw [len_rng]; unfold SZ; omega)
  have z4 : OV.ds ((List.range k).map fun j => OV.fz (oi (ng (lo j)))) = (List.range k).map fun j => oi (ng (lo j)) := ds_rng k _
  rw [ws_tbl]
  clear hS hk
  generalize ((List.range k).map fun i => OV.ol (rowO (k + 1) (wsM k gp lo hi) i)) = T2 at *
  generalize ((List.range k).map fun j => OV.fz (oi (ng (lo j)))) = T3 at *
  generalize ((List.range k).map fun j => oi (ng (lo j))) = T4 at *
  unfold fWith
  walk_at "ev"
end
end PF

/-! PF: gaps_closed, for any law's text. -/
namespace PF
open PySem MG
theorem any_map {α : Type} (f : α → Bool) (xs : List α) : bltD .any [.list (OV.ds (xs.map fun x => oB (f x)))] = some (oB (xs.any f)) := by
  show b1 (boolsD _) _ = _
  rw [bools_map f xs]
  show some (oB _) = _
  rw [List.any_map]
  rfl
def rowD (n : Nat) (M : Mx) (i : Nat) : D := .list ((List.range n).map fun j => oi (M i j))
theorem ds_tbl (n : Nat) (M : Mx) : OV.ds (tblO n M) = (List.range n).map (rowD n M) := by
  unfold tblO
  rw [ds_rng]
  apply List.map_congr_left
  intro i _
  unfold rowD rowO
  show PyData.list (OV.ds _) = _
  rw [ds_rng]
  rfl
/-- what gaps_closed tells of a closed table -/
def gapsT (k : Nat) (M : Mx) : D := .tuple ((List.range k).map fun i => PyData.tuple ((List.range k).map fun j => oi (M i j)))
def spanT (k : Nat) (M : Mx) (i : Nat) : D := .tuple [oi (ng (M k i)), oi (M i k)]
def closedO (k : Nat) (M : Mx) : OV := .ot [.fz (gapsT k M), .ol ((List.range k).map fun i => OV.fz (spanT k M i))]
theorem x1_non {α γ : Type} (k : α → Option γ) (t : Tg k) : x1 none k t = none := rfl
local macro_rules | `(tactic| walk_at "ev") => `(tactic| simp only [xRun, startE, List.map_cons, List.map_nil, List.length_cons, List.length_nil, Nat.zero_add, Nat.reduceAdd, Nat.reduceSub, decide_true, List.cons_append, List.nil_append, List.append_nil, List.getElem?_cons_zero, List.getElem?_cons_succ, List.replicate, List.set_cons_zero, List.set_cons_succ, Int.cast_ofNat_Int, Int.reduceToNat, Int.reduceLE, Int.reduceLT, Int.reducePow, Int.reduceNeg, Int.reduceAdd, Int.reduceSub, Int.reduceMul, Int.reduceBEq, Int.reduceBNe, if_true, if_false, ↓reduceIte, Int.toNat_zero, List.not_mem_nil, not_false_eq_true, List.any_cons, List.any_nil, Bool.or_true, Bool.true_or, Bool.or_false, Bool.false_or, Bool.not_true, Bool.not_false, Bool.and_true, Bool.true_and, Bool.and_false, Bool.false_and, Nat.reduceLT, Nat.reduceLeDiff, bne_self_eq_false, Int.toNat_natCast, beq_self_eq_true, ds_fzs, Bool.false_eq_true, List.isEmpty_cons, List.isEmpty_nil, decide_false, wB0, wB1, wB2, wB3, wB4, wFor, wLcY, wLcX, wLc2, wZip, wZipM, wLz, wMm, wCmp, wSlc, wIdx, q_abs_int, q_add_list, q_add_tup, q_bT_tl, q_bT_tp, q_items_t, q_ix, q_mul_list, q_mul_tup, oi_n, oi_s, sq_items, sq_zip, sq_len, sq_list, sq_idx, x1_non, *])
section
variable {F : List Fn}
theorem closed_spec {g w c l : Nat} (h : F[g]? = some (fClosed w c)) (hw : F[w]? = some fWith) (hc : F[c]? = some (fClose l)) (hl : F[l]? = some fLesser) (W n : Nat) {k : Nat} (hk : k ≤ 1000) (b d : Bool) (bs ds : Nat → Bool) (gp : Mx) (lo hi : Nat → Option Int) (dg : Nat → Int) (hd : ∀ i < k + 1, clo (k + 1) (wsM k gp lo hi) (k + 1) i i = some (dg i)) :
    evF F W (n + 3) g [.fz (rowsD b bs k gp), .fz (spnD d ds k lo hi)] = some (if (List.range (k + 1)).any (fun i => decide (dg i < 0)) = true then .fz .none else closedO k (clo (k + 1) (wsM k gp lo hi) (k + 1)), []) := by
  have e1 := with_spec hw W (n + 1) hk b d bs ds gp lo hi
  have e2 := close_spec hc hl W n (n := k + 1) (by omega) (wsM k gp lo hi)
  generalize clo (k + 1) (wsM k gp lo hi) (k + 1) = M at *
  have hS : k < SZ := by unfold SZ; omega
  have hS1 : k + 1 < SZ := by unfold SZ; omega
  have e3 := ds_tbl (k + 1) M
  have e4 : bltD .len [rowsD b bs k gp] = some (.fz (.int (k : Int))) := by
    unfold rowsD
    rw [sq_len, len_rng]
  have r1 : rngOk ((k : Int) + 1) = true := rng_nat (n := k + 1) (by omega)
  have r2 : ((k : Int) + 1).toNat = k + 1 := by omega
  have A1 : atD ((List.range (k + 1)).map (rowD (k + 1) M)) (k : Int) = some (rowD (k + 1) M k) := at_rng (Nat.lt_succ_self k) _
  rw [ev_call h]
  clear h hw hc hl hk
  have f1 : ∀ o0 o1 o2 o4 o5 o6 o7 o8, lcY ⟨evF F W (n + 2), W⟩ [6] (.nm 6) (.c (.bool true)) (.cmp .lt (.idx (.idx (.v 3) (.v 6)) (.v 6)) (.c (.int 0))) (rangeD 0 (k + 1)) [o0, o1, o2, some (.fz (.list ((List.range (k + 1)).map (rowD (k + 1) M)))), o4, o5, o6, o7, o8] = some (.ol ((List.range (k + 1)).map fun i => oB (decide (dg i < 0))), [o0, o1, o2, some (.fz (.list ((List.range (k + 1)).map (rowD (k + 1) M)))), o4, o5, o6, o7, o8]) := by
    intro o0 o1 o2 o4 o5 o6 o7 o8
    have er : rangeD 0 (k + 1) = (List.range (k + 1)).map fun i => PyData.int (i : Nat) := by
      unfold rangeD
      apply List.map_congr_left
      intro i _
      rw [Int.zero_add]
    rw [er]
    refine lcY_ix hS1 _ _ fun i hi' => ?_
    have B1 : atD ((List.range (k + 1)).map (rowD (k + 1) M)) (i : Int) = some (rowD (k + 1) M i) := at_rng hi' _
    have B2 : idxD (rowD (k + 1) M i) (.int (i : Int)) = some (.int (dg i)) := by
      show atD _ _ = _
      rw [at_rng hi', hd i hi']
      rfl
    refine ⟨[o0, o1, o2, some (.fz (.list ((List.range (k + 1)).map (rowD (k + 1) M)))), o4, o5, some (oI i), o7, o8], ?_, rfl⟩
    clear hi' hS hS1 e1 e2 e3 e4 r1 r2 A1 hd er
    generalize (List.range (k + 1)).map (rowD (k + 1) M) = TB at *
    walk_at "ev"
  have f2 := any_map (fun i => decide (dg i < 0)) (List.range (k + 1))
  have f3 : ∀ o0 o1 o2 o3 o5 o6 o7 o8, lcY ⟨evF F W (n + 2), W⟩ [5] (.nm 5) (.c (.bool true)) (.ite (.isn false (.v 5)) (.c .none) (.neg (.v 5))) ((List.range k).map fun j => oi (M k j)) [o0, o1, o2, o3, some (oI k), o5, o6, o7, o8] = some (.ol ((List.range k).map fun j => OV.fz (oi (ng (M k j)))), [o0, o1, o2, o3, some (oI k), o5, o6, o7, o8]) := by
    intro o0 o1 o2 o3 o5 o6 o7 o8
    refine lcY_ix hS _ _ fun i hi' => ?_
    refine ⟨[o0, o1, o2, o3, some (oI k), some (.fz (oi (M k i))), o6, o7, o8], ?_, rfl⟩
    clear hi' hS hS1 e1 e2 e3 e4 r1 r2 A1 hd f1 f2
    cases M k i with
    | none =>
      show _ = some ([OV.fz .none], _)
      walk_at "ev"
    | some x =>
      show _ = some ([OV.fz (.int (-x))], _)
      walk_at "ev"
  have f4 : ∀ o0 o1 o2 o3 o5 o6 o7 o8, lcY ⟨evF F W (n + 2), W⟩ [7] (.nm 7) (.c (.bool true)) (.blt .tuple (.cons (.slc (.v 7) .no (.ye (.v 4))) .nil)) ((List.range k).map (rowD (k + 1) M)) [o0, o1, o2, o3, some (oI k), o5, o6, o7, o8] = some (.ol ((List.range k).map fun i => OV.fz (.tuple ((List.range k).map fun j => oi (M i j)))), [o0, o1, o2, o3, some (oI k), o5, o6, o7, o8]) := by
    intro o0 o1 o2 o3 o5 o6 o7 o8
    refine lcY_ix hS _ _ fun i hi' => ?_
    have B1 := cut_rng k fun j => oi (M i j)
    refine ⟨[o0, o1, o2, o3, some (oI k), o5, o6, some (.fz (rowD (k + 1) M i)), o8], ?_, rfl⟩
    clear hi' hS hS1 e1 e2 e3 e4 r1 r2 A1 hd f1 f2 f3
    unfold rowD
    generalize ((List.range k).map fun j => oi (M i j)) = RW at *
    generalize ((List.range (k + 1)).map fun j => oi (M i j)) = RW1 at *
    walk_at "ev"
  have f5 : ∀ o0 o1 o2 o3 o5 o6 o7 o8, lcY ⟨evF F W (n + 2), W⟩ [8, 7] (.tp (.cons (.nm 8) (.cons (.nm 7) .nil))) (.c (.bool true)) (.tup (.cons (.v 8) (.cons (.idx (.v 7) (.v 4)) .nil))) ((List.range k).map fun i => PyData.tuple [oi (ng (M k i)), rowD (k + 1) M i]) [o0, o1, o2, o3, some (oI k), o5, o6, o7, o8] = some (.ol ((List.range k).map fun i => OV.fz (spanT k M i)), [o0, o1, o2, o3, some (oI k), o5, o6, o7, o8]) := by
    intro o0 o1 o2 o3 o5 o6 o7 o8
    refine lcY_ix hS _ _ fun i hi' => ?_
    have B1 : idxD (rowD (k + 1) M i) (.int (k : Int)) = some (oi (M i k)) := at_rng (Nat.lt_succ_self k) _
    have z2 : decide (2 ≤ SZ) = true := by decide
    refine ⟨[o0, o1, o2, o3, some (oI k), o5, o6, some (.fz (rowD (k + 1) M i)), some (.fz (oi (ng (M k i))))], ?_, rfl⟩
    clear hi' hS hS1 e1 e2 e3 e4 r1 r2 A1 hd f1 f2 f3 f4
    unfold spanT
    generalize rowD (k + 1) M i = RW at *
    walk_at "ev"
  have g1 := cut_rng k fun j => oi (M k j)
  have g2 := cut_rng k (rowD (k + 1) M)
  have g3 := zip_rng1 k (fun i => oi (ng (M k i))) (rowD (k + 1) M)
  have g4 : OV.ds ((List.range k).map fun j => OV.fz (oi (ng (M k j)))) = (List.range k).map fun j => oi (ng (M k j)) := ds_rng k _
  have g5 : OV.ds ((List.range k).map fun i => OV.fz (.tuple ((List.range k).map fun j => oi (M i j)))) = (List.range k).map fun i => PyData.tuple ((List.range k).map fun j => oi (M i j)) := ds_rng k _
  have z2 : decide (2 ≤ SZ) = true := by decide
  clear hS hS1 hd
  unfold closedO gapsT fClosed
  have hrow : rowD (k + 1) M k = .list ((List.range (k + 1)).map fun j => oi (M k j)) := rfl
  rw [hrow] at A1
  generalize (List.range (k + 1)).map (rowD (k + 1) M) = TB at *
  generalize ((List.range (k + 1)).map fun j => oi (M k j)) = R1 at *
  generalize (List.range k).map (rowD (k + 1) M) = R2 at *
  generalize ((List.range k).map fun i => PyData.tuple [oi (ng (M k i)), rowD (k + 1) M i]) = R3 at *
  generalize ((List.range k).map fun j => oi (ng (M k j))) = R4 at *
  generalize ((List.range k).map fun j => OV.fz (oi (ng (M k j)))) = R5 at *
  generalize ((List.range k).map fun i => OV.fz (.tuple ((List.range k).map fun j => oi (M i j)))) = R6 at *
  generalize ((List.range k).map fun i => PyData.tuple ((List.range k).map fun j => oi (M i j))) = R7 at *
  generalize ((List.range k).map fun i => OV.fz (spanT k M i)) = R8 at *
  generalize ((List.range k).map fun j => oi (M k j)) = R9 at *
  generalize rowsD b bs k gp = X0 at *
  generalize spnD d ds k lo hi = X1 at *
  generalize tblO (k + 1) M = T1 at *
  generalize tblO (k + 1) (wsM k gp lo hi) = T0 at *
  generalize ((List.range (k + 1)).map fun i => oB (decide (dg i < 0))) = T2 at *
  cases hb : (List.range (k + 1)).any (fun i => decide (dg i < 0)) with
  | true =>
    rw [hb] at f2
    rw [if_pos rfl]
    clear hb f3 f4 f5
    walk_at "ev"
  | false =>
    rw [hb] at f2
    rw [if_neg Bool.false_ne_true]
    clear hb
    walk_at "ev"
end
end PF

namespace PF
open PySem
/-- tuples all the way -/
def tpD : Nat → D → Bool
  | _, .none => true
  | _, .bool _ => true
  | _, .int _ => true
  | _, .str _ => true
  | n + 1, .tuple xs => decide (xs.length < SZ) && xs.all (tpD n)
  | _, _ => false
def fTup (t : Nat) : Fn := ⟨1, 2, [], (.cons (.iff (.isi [.list, .tuple] (.v 0)) (.cons (.ret (.blt .tuple (.cons (.lc [1] (.nm 1) (.seq (.v 0)) (.c (.bool true)) (.call t (.ev (.v 1) .nil))) .nil))) .nil) .nil) (.cons (.ret (.v 0)) .nil))⟩
theorem ds_fz (xs : List D) : OV.ds (xs.map OV.fz) = xs := ds_fzs xs
local macro_rules | `(tactic| walk_at "ev") => `(tactic| simp only [xRun, startE, List.map_cons, List.map_nil, List.length_cons, List.length_nil, Nat.zero_add, Nat.reduceAdd, Nat.reduceSub, decide_true, xg_true, List.cons_append, List.nil_append, List.append_nil, List.getElem?_cons_zero, List.getElem?_cons_succ, List.replicate, List.set_cons_zero, List.set_cons_succ, x1_some, xd_some, xi_int, xz_fz, xl_ol, xf_nx, xf_rt, xf_bk, xf_ct, q_par_n, q_par_t, q_par_f, xs_true, xs_false, xn_none, xn_int, xn_bool, xn_str, xn_list, xn_tuple, Int.cast_ofNat_Int, Int.reduceToNat, Int.reduceLE, Int.reduceLT, Int.reducePow, Int.reduceNeg, Int.reduceAdd, Int.reduceSub, Int.reduceMul, Int.reduceBEq, Int.reduceBNe, if_true, if_false, ↓reduceIte, Int.toNat_zero, e_xE_0, e_xE_1, e_xE_2, e_xE_3, e_xE_4, e_xE_5, e_xE_6, e_xE_7, e_xE_8, e_xE_9, e_xE_10, e_xE_11, e_xE_12, e_xE_13, e_xE_14, e_xE_15, e_xE_16, e_xE_17, e_xE_18, e_xE_19, e_xE_20, e_xE_21, e_xE_22, e_xE_23, e_xE_24, e_xO_0, e_xO_1, e_xEs_0, e_xEs_1, e_xA_0, e_xA_1, e_xA_2, e_xI_0, e_xI_1, e_xI_2, e_xI_3, e_xI_4, e_xS_0, e_xS_1, e_xS_2, e_xS_3, e_xS_4, e_xS_5, e_xS_6, e_xS_7, e_xS_8, e_xS_9, e_xS_10, e_xS_11, e_xS_12, e_xS_13, e_xS_14, e_xS_15, e_xS_16, e_xSs_0, e_xSs_1, q_add_int, q_add_list, q_sub_int, q_mul_int, q_mul_list, q_fdiv_int, q_mod_int, q_pow7, q_pow18, q_pow20, q_tru_none, q_tru_bool, q_tru_int, q_tru_list, q_tru_tuple, q_cmp_lt, q_cmp_le, q_cmp_gt, q_cmp_ge, q_idx_list, q_idx_tuple, q_len_list, q_len_tuple, q_abs_int, q_int_int, q_int_bool, q_min_two, q_max_two, q_list_list, q_list_tuple, q_tuple_list, q_tuple_tuple, q_slc_list, q_slc_tuple, q_getF_0, q_getF_s, q_getL_0, q_getL_s, q_get_0, q_get_s, q_optI_n, q_optI_s, q_items_l, q_items_t, q_listD_l, q_zip_l, q_zip_t, q_d_fz, q_d_ol, q_d_ot, q_ds_n, q_ds_c, q_outs_n, q_ty_int_none, q_ty_int_bool, q_ty_int_int, q_ty_int_str, q_ty_int_list, q_ty_int_tuple, q_ty_bool_none, q_ty_bool_bool, q_ty_bool_int, q_ty_bool_str, q_ty_bool_list, q_ty_bool_tuple, q_ty_str_none, q_ty_str_bool, q_ty_str_int, q_ty_str_str, q_ty_str_list, q_ty_str_tuple, q_ty_list_none, q_ty_list_bool, q_ty_list_int, q_ty_list_str, q_ty_list_list, q_ty_list_tuple, q_ty_tuple_none, q_ty_tuple_bool, q_ty_tuple_int, q_ty_tuple_str, q_ty_tuple_list, q_ty_tuple_tuple, q_at, q_ix, q_gd, q_bd, q_b1, List.not_mem_nil, not_false_eq_true, List.any_cons, List.any_nil, Bool.or_true, Bool.true_or, Bool.or_false, Bool.false_or, Bool.not_true, Bool.not_false, Bool.and_true, Bool.true_and, Bool.and_false, Bool.false_and, Nat.reduceLT, Nat.reduceLeDiff, bne_self_eq_false, Int.toNat_natCast, q_bT_nm, q_bT_tp, q_bTs_n, q_bTs_c, q_res_n, q_res_l, q_res_r, q_slo_n, q_slo_l, q_slo_r, q_put_n, q_put_c, q_wip_n, q_wip_c, q_wiC_n, q_wiC_c, q_bkE_n, q_bkE_c, q_jn, q_prm_n, q_prm_c, q_fzs_n, q_fzs_c, q_alz_n, q_alz_c, q_alz_l, q_alz_t, q_mkT, q_mkT_s, q_mkT_n, q_out_n, q_out_c, q_end_r, q_end_n, xnd_none, xnd_bool, xnd_int, xnd_str, xnd_list, xnd_tuple, beq_self_eq_true, ds_fzs, Bool.false_eq_true, q_le_0, q_lt_0, q_le_1, q_lt_1, q_le_2, q_lt_2, q_le_3, q_lt_3, q_le_4, q_lt_4, q_le_5, q_lt_5, q_le_6, q_lt_6, q_le_7, q_lt_7, q_le_8, q_lt_8, q_le_9, q_lt_9, q_le_10, q_lt_10, q_le_11, q_lt_11, q_le_12, q_lt_12, e_xE_25, e_xE_26, e_xE_27, e_xE_28, e_xE_29, e_xE_30, e_xE_31, e_xE_32, e_xS_17, e_xS_18, e_xS_19, e_xS_20, xb_bool, q_bT_tl, q_add_tup, q_add_str, q_frE_n, q_frE_0, q_frE_s, q_immO_f, q_immO_l, q_immO_t, q_immOs_n, q_immOs_c, q_immD_n, q_immD_b, q_immD_i, q_immD_s, q_immD_t, q_immDs_n, q_immDs_c, q_str_int, q_str_str, q_txt_int, q_txt_str, q_cat_n, q_cat_c, q_cst_s, q_cst_i, q_isb, xr_nx, xr_ct, xr_bk, xr_rt, q_lturn, q_l2turn, q_turn, q_wtest, q_lcX_n, q_lcX_c, q_lc2X_n, q_lc2X_c, q_lc2Y_n, q_lc2Y_c, q_forX_n, q_forX_c, q_eqb, q_neb, q_eqi, q_nei, q_eqn, List.isEmpty_cons, List.isEmpty_nil, decide_false, q_zip_lt, q_zip_tl, q_cst_t, q_ca_n, q_ca_i, q_ca_s, q_rev_l, q_rev_t, e_xE_33, e_xE_34, q_lz, q_listD_t, q_mul_tup, q_srs_1, e_xE_35, e_xE_36, q_fnN, e_xE_37, q_popK, e_xI_5, q_lz_t, ds_fz, *])
theorem tup_id {F : List Fn} {t : Nat} (h : F[t]? = some (fTup t)) (W : Nat) : ∀ (n : Nat) (d : D) (k : Nat), tpD n d = true → n ≤ k → evF F W (k + 1) t [.fz d] = some (.fz d, [])
  | n, d, k, ok, hk => by
    rw [ev_call h]
    have hF := h
    unfold fTup
    cases d with
    | none => clear h hF; walk_at "ev"
    | bool b => clear h hF; walk_at "ev"
    | int i => clear h hF; walk_at "ev"
    | str x => clear h hF ok; walk_at "ev"
    | dict x => cases n <;> cases ok
    | list xs => cases n <;> cases ok
    | tuple xs =>
      cases n with
      | zero => cases ok
      | succ m =>
        have ok2 := Bool.and_eq_true_iff.mp ok
        obtain ⟨k', rfl⟩ : ∃ k', k = k' + 1 := ⟨k - 1, by omega⟩
        have eL := lcY_l (C := ⟨evF F W (k' + 1), W⟩) (own := [1]) (tg := .nm 1) (cnd := .c (.bool true)) (elt := .call t (.ev (.v 1) .nil)) (ρ := [some (.fz (.tuple xs)), none]) xs (of_decide_eq_true ok2.1) id OV.fz (fun d hd => by
          have e := tup_id h W m d k' (List.all_eq_true.mp ok2.2 d hd) (by omega)
          refine ⟨[some (.fz (.tuple xs)), some (.fz d)], ?_, rfl⟩
          show lturn _ _ _ _ _ d _ = _
          clear ok2 ok h hF hk
          walk_at "ev")
        rw [List.map_id] at eL
        clear h hF ok ok2
        walk_at "ev"
  termination_by n => n
end PF

namespace PF
open PySem
/-- lists in place of tuples -/
def lsD : Nat → D → D
  | n + 1, .tuple xs => .list (xs.map (lsD n))
  | _, d => d
def lsO : Nat → D → OV
  | n + 1, .tuple xs => .ol (xs.map (lsO n))
  | _, d => .fz d
theorem lsO_d : ∀ (n : Nat) (d : D), (lsO n d).d = lsD n d
  | 0, d => by cases d <;> rfl
  | n + 1, d => by
    cases d with
    | tuple xs =>
      show PyData.list (OV.ds (xs.map (lsO n))) = .list (xs.map (lsD n))
      rw [OV.ds_map, List.map_map]
      congr 1
      refine List.map_congr_left fun x _ => ?_
      exact lsO_d n x
    | _ => rfl
def fLst (t : Nat) : Fn := ⟨1, 2, [], (.cons (.ret (.ite (.isi [.list, .tuple] (.v 0)) (.lc [1] (.nm 1) (.seq (.v 0)) (.c (.bool true)) (.call t (.ev (.v 1) .nil))) (.v 0))) .nil)⟩
local macro_rules | `(tactic| walk_at "ev") => `(tactic| simp only [xRun, startE, List.map_cons, List.map_nil, List.length_cons, List.length_nil, Nat.zero_add, Nat.reduceAdd, Nat.reduceSub, decide_true, xg_true, List.cons_append, List.nil_append, List.append_nil, List.getElem?_cons_zero, List.getElem?_cons_succ, List.replicate, List.set_cons_zero, List.set_cons_succ, x1_some, xd_some, xi_int, xz_fz, xl_ol, xf_nx, xf_rt, xf_bk, xf_ct, q_par_n, q_par_t, q_par_f, xs_true, xs_false, xn_none, xn_int, xn_bool, xn_str, xn_list, xn_tuple, Int.cast_ofNat_Int, Int.reduceToNat, Int.reduceLE, Int.reduceLT, Int.reducePow, Int.reduceNeg, Int.reduceAdd, Int.reduceSub, Int.reduceMul, Int.reduceBEq, Int.reduceBNe, if_true, if_false, ↓reduceIte, Int.toNat_zero, e_xE_0, e_xE_1, e_xE_2, e_xE_3, e_xE_4, e_xE_5, e_xE_6, e_xE_7, e_xE_8, e_xE_9, e_xE_10, e_xE_11, e_xE_12, e_xE_13, e_xE_14, e_xE_15, e_xE_16, e_xE_17, e_xE_18, e_xE_19, e_xE_20, e_xE_21, e_xE_22, e_xE_23, e_xE_24, e_xO_0, e_xO_1, e_xEs_0, e_xEs_1, e_xA_0, e_xA_1, e_xA_2, e_xI_0, e_xI_1, e_xI_2, e_xI_3, e_xI_4, e_xS_0, e_xS_1, e_xS_2, e_xS_3, e_xS_4, e_xS_5, e_xS_6, e_xS_7, e_xS_8, e_xS_9, e_xS_10, e_xS_11, e_xS_12, e_xS_13, e_xS_14, e_xS_15, e_xS_16, e_xSs_0, e_xSs_1, q_add_int, q_add_list, q_sub_int, q_mul_int, q_mul_list, q_fdiv_int, q_mod_int, q_pow7, q_pow18, q_pow20, q_tru_none, q_tru_bool, q_tru_int, q_tru_list, q_tru_tuple, q_cmp_lt, q_cmp_le, q_cmp_gt, q_cmp_ge, q_idx_list, q_idx_tuple, q_len_list, q_len_tuple, q_abs_int, q_int_int, q_int_bool, q_min_two, q_max_two, q_list_list, q_list_tuple, q_tuple_list, q_tuple_tuple, q_slc_list, q_slc_tuple, q_getF_0, q_getF_s, q_getL_0, q_getL_s, q_get_0, q_get_s, q_optI_n, q_optI_s, q_items_l, q_items_t, q_listD_l, q_zip_l, q_zip_t, q_d_fz, q_d_ol, q_d_ot, q_ds_n, q_ds_c, q_outs_n, q_ty_int_none, q_ty_int_bool, q_ty_int_int, q_ty_int_str, q_ty_int_list, q_ty_int_tuple, q_ty_bool_none, q_ty_bool_bool, q_ty_bool_int, q_ty_bool_str, q_ty_bool_list, q_ty_bool_tuple, q_ty_str_none, q_ty_str_bool, q_ty_str_int, q_ty_str_str, q_ty_str_list, q_ty_str_tuple, q_ty_list_none, q_ty_list_bool, q_ty_list_int, q_ty_list_str, q_ty_list_list, q_ty_list_tuple, q_ty_tuple_none, q_ty_tuple_bool, q_ty_tuple_int, q_ty_tuple_str, q_ty_tuple_list, q_ty_tuple_tuple, q_at, q_ix, q_gd, q_bd, q_b1, List.not_mem_nil, not_false_eq_true, List.any_cons, List.any_nil, Bool.or_true, Bool.true_or, Bool.or_false, Bool.false_or, Bool.not_true, Bool.not_false, Bool.and_true, Bool.true_and, Bool.and_false, Bool.false_and, Nat.reduceLT, Nat.reduceLeDiff, bne_self_eq_false, Int.toNat_natCast, q_bT_nm, q_bT_tp, q_bTs_n, q_bTs_c, q_res_n, q_res_l, q_res_r, q_slo_n, q_slo_l, q_slo_r, q_put_n, q_put_c, q_wip_n, q_wip_c, q_wiC_n, q_wiC_c, q_bkE_n, q_bkE_c, q_jn, q_prm_n, q_prm_c, q_fzs_n, q_fzs_c, q_alz_n, q_alz_c, q_alz_l, q_alz_t, q_mkT, q_mkT_s, q_mkT_n, q_out_n, q_out_c, q_end_r, q_end_n, xnd_none, xnd_bool, xnd_int, xnd_str, xnd_list, xnd_tuple, beq_self_eq_true, ds_fzs, Bool.false_eq_true, q_le_0, q_lt_0, q_le_1, q_lt_1, q_le_2, q_lt_2, q_le_3, q_lt_3, q_le_4, q_lt_4, q_le_5, q_lt_5, q_le_6, q_lt_6, q_le_7, q_lt_7, q_le_8, q_lt_8, q_le_9, q_lt_9, q_le_10, q_lt_10, q_le_11, q_lt_11, q_le_12, q_lt_12, e_xE_25, e_xE_26, e_xE_27, e_xE_28, e_xE_29, e_xE_30, e_xE_31, e_xE_32, e_xS_17, e_xS_18, e_xS_19, e_xS_20, xb_bool, q_bT_tl, q_add_tup, q_add_str, q_frE_n, q_frE_0, q_frE_s, q_immO_f, q_immO_l, q_immO_t, q_immOs_n, q_immOs_c, q_immD_n, q_immD_b, q_immD_i, q_immD_s, q_immD_t, q_immDs_n, q_immDs_c, q_str_int, q_str_str, q_txt_int, q_txt_str, q_cat_n, q_cat_c, q_cst_s, q_cst_i, q_isb, xr_nx, xr_ct, xr_bk, xr_rt, q_lturn, q_l2turn, q_turn, q_wtest, q_lcX_n, q_lcX_c, q_lc2X_n, q_lc2X_c, q_lc2Y_n, q_lc2Y_c, q_forX_n, q_forX_c, q_eqb, q_neb, q_eqi, q_nei, q_eqn, List.isEmpty_cons, List.isEmpty_nil, decide_false, q_zip_lt, q_zip_tl, q_cst_t, q_ca_n, q_ca_i, q_ca_s, q_rev_l, q_rev_t, e_xE_33, e_xE_34, q_lz, q_listD_t, q_mul_tup, q_srs_1, e_xE_35, e_xE_36, q_fnN, e_xE_37, q_popK, e_xI_5, q_lz_t, ds_fz, *])
theorem lst_eq {F : List Fn} {t : Nat} (h : F[t]? = some (fLst t)) (W : Nat) : ∀ (n : Nat) (d : D) (k : Nat), tpD n d = true → n ≤ k → evF F W (k + 1) t [.fz d] = some (lsO n d, [])
  | n, d, k, ok, hk => by
    rw [ev_call h]
    have hF := h
    unfold fLst
    cases d with
    | none => clear h hF; cases n <;> (show _ = some (OV.fz _, []); walk_at "ev")
    | bool b => clear h hF; cases n <;> (show _ = some (OV.fz _, []); walk_at "ev")
    | int i => clear h hF; cases n <;> (show _ = some (OV.fz _, []); walk_at "ev")
    | str x => clear h hF ok; cases n <;> (show _ = some (OV.fz _, []); walk_at "ev")
    | dict x => cases n <;> cases ok
    | list xs => cases n <;> cases ok
    | tuple xs =>
      cases n with
      | zero => cases ok
      | succ m =>
        have ok2 := Bool.and_eq_true_iff.mp ok
        obtain ⟨k', rfl⟩ : ∃ k', k = k' + 1 := ⟨k - 1, by omega⟩
        have eL := lcY_l (C := ⟨evF F W (k' + 1), W⟩) (own := [1]) (tg := .nm 1) (cnd := .c (.bool true)) (elt := .call t (.ev (.v 1) .nil)) (ρ := [some (.fz (.tuple xs)), none]) xs (of_decide_eq_true ok2.1) id (lsO m) (fun d hd => by
          have e := lst_eq h W m d k' (List.all_eq_true.mp ok2.2 d hd) (by omega)
          refine ⟨[some (.fz (.tuple xs)), some (.fz d)], ?_, rfl⟩
          show lturn _ _ _ _ _ d _ = _
          generalize lsO m d = od at *
          clear ok2 ok h hF hk
          walk_at "ev")
        rw [List.map_id] at eL
        show _ = some (OV.ol (xs.map (lsO m)), [])
        generalize xs.map (lsO m) = XO at *
        clear h hF ok ok2
        walk_at "ev"
  termination_by n => n
end PF

namespace PF
open PySem
/-- lists in place of tuples and lists -/
def laD : Nat → D → D
  | n + 1, .tuple xs => .list (xs.map (laD n))
  | n + 1, .list xs => .list (xs.map (laD n))
  | _, d => d
def laO : Nat → D → OV
  | n + 1, .tuple xs => .ol (xs.map (laO n))
  | n + 1, .list xs => .ol (xs.map (laO n))
  | _, d => .fz d
theorem laO_d : ∀ (n : Nat) (d : D), (laO n d).d = laD n d
  | 0, d => by cases d <;> rfl
  | n + 1, d => by
    cases d with
    | tuple xs =>
      show PyData.list (OV.ds (xs.map (laO n))) = .list (xs.map (laD n))
      rw [OV.ds_map, List.map_map]
      congr 1
      refine List.map_congr_left fun x _ => ?_
      exact laO_d n x
    | list xs =>
      show PyData.list (OV.ds (xs.map (laO n))) = .list (xs.map (laD n))
      rw [OV.ds_map, List.map_map]
      congr 1
      refine List.map_congr_left fun x _ => ?_
      exact laO_d n x
    | _ => rfl
local macro_rules | `(tactic| walk_at "ev") => `(tactic| simp only [xRun, startE, List.map_cons, List.map_nil, List.length_cons, List.length_nil, Nat.zero_add, Nat.reduceAdd, Nat.reduceSub, decide_true, List.cons_append, List.nil_append, List.append_nil, List.getElem?_cons_zero, List.getElem?_cons_succ, List.replicate, List.set_cons_zero, List.set_cons_succ, Int.cast_ofNat_Int, Int.reduceToNat, Int.reduceLE, Int.reduceLT, Int.reducePow, Int.reduceNeg, Int.reduceAdd, Int.reduceSub, Int.reduceMul, Int.reduceBEq, Int.reduceBNe, if_true, if_false, ↓reduceIte, Int.toNat_zero, List.not_mem_nil, not_false_eq_true, List.any_cons, List.any_nil, Bool.or_true, Bool.true_or, Bool.or_false, Bool.false_or, Bool.not_true, Bool.not_false, Bool.and_true, Bool.true_and, Bool.and_false, Bool.false_and, Nat.reduceLT, Nat.reduceLeDiff, bne_self_eq_false, Int.toNat_natCast, beq_self_eq_true, ds_fzs, Bool.false_eq_true, List.isEmpty_cons, List.isEmpty_nil, decide_false, wB0, wB1, wB2, wB3, wB4, wFor, wLcY, wLcX, wLc2, wZip, wZipM, wLz, wMm, wCmp, wSlc, wIdx, q_abs_int, q_add_list, q_add_tup, q_bT_tl, q_bT_tp, q_items_t, q_ix, q_mul_list, q_mul_tup, *])
theorem lsa_eq {F : List Fn} {t : Nat} (h : F[t]? = some (fLst t)) (W : Nat) : ∀ (n : Nat) (d : D) (k : Nat), okD n d = true → n ≤ k → evF F W (k + 1) t [.fz d] = some (laO n d, [])
  | n, d, k, ok, hk => by
    rw [ev_call h]
    have hF := h
    unfold fLst
    cases d with
    | none => clear h hF; cases n <;> (show _ = some (OV.fz _, []); walk_at "ev")
    | bool b => clear h hF; cases n <;> (show _ = some (OV.fz _, []); walk_at "ev")
    | int i => clear h hF; cases n <;> (show _ = some (OV.fz _, []); walk_at "ev")
    | str x => clear h hF ok; cases n <;> (show _ = some (OV.fz _, []); walk_at "ev")
    | dict x => cases n <;> cases ok
    | list xs =>
      cases n with
      | zero => cases ok
      | succ m =>
        have ok2 := Bool.and_eq_true_iff.mp ok
        obtain ⟨k', rfl⟩ : ∃ k', k = k' + 1 := ⟨k - 1, by omega⟩
        have eL := lcY_l (C := ⟨evF F W (k' + 1), W⟩) (own := [1]) (tg := .nm 1) (cnd := .c (.bool true)) (elt := .call t (.ev (.v 1) .nil)) (ρ := [some (.fz (.list xs)), none]) xs (of_decide_eq_true ok2.1) id (laO m) (fun d hd => by
          have e := lsa_eq h W m d k' (List.all_eq_true.mp ok2.2 d hd) (by omega)
          refine ⟨[some (.fz (.list xs)), some (.fz d)], ?_, rfl⟩
          show lturn _ _ _ _ _ d _ = _
          generalize laO m d = od at *
          clear ok2 ok h hF hk
          walk_at "ev")
        rw [List.map_id] at eL
        show _ = some (OV.ol (xs.map (laO m)), [])
        generalize xs.map (laO m) = XO at *
        clear h hF ok ok2
        walk_at "ev"
    | tuple xs =>
      cases n with
      | zero => cases ok
      | succ m =>
        have ok2 := Bool.and_eq_true_iff.mp ok
        obtain ⟨k', rfl⟩ : ∃ k', k = k' + 1 := ⟨k - 1, by omega⟩
        have eL := lcY_l (C := ⟨evF F W (k' + 1), W⟩) (own := [1]) (tg := .nm 1) (cnd := .c (.bool true)) (elt := .call t (.ev (.v 1) .nil)) (ρ := [some (.fz (.tuple xs)), none]) xs (of_decide_eq_true ok2.1) id (laO m) (fun d hd => by
          have e := lsa_eq h W m d k' (List.all_eq_true.mp ok2.2 d hd) (by omega)
          refine ⟨[some (.fz (.tuple xs)), some (.fz d)], ?_, rfl⟩
          show lturn _ _ _ _ _ d _ = _
          generalize laO m d = od at *
          clear ok2 ok h hF hk
          walk_at "ev")
        rw [List.map_id] at eL
        show _ = some (OV.ol (xs.map (laO m)), [])
        generalize xs.map (laO m) = XO at *
        clear h hF ok ok2
        walk_at "ev"
  termination_by n => n
end PF

/-! PF: the texts that repr makes of small data. -/
namespace PF
open PySem
theorem strOk_join {sep : Str} (hs : PyData.strOk sep = true) : ∀ {ts : List Str}, (∀ t ∈ ts, PyData.strOk t = true) → PyData.strOk (Str.join sep ts) = true
  | [], _ => show PyData.strOk Str.empty = true by decide +kernel
  | [x], h => h x List.mem_cons_self
  | x :: y :: ts, h => strOk_app (strOk_app (h x List.mem_cons_self) hs) (strOk_join hs (ts := y :: ts) fun t ht => h t (List.mem_cons_of_mem _ ht))
theorem strOk_from : ∀ {ts : List Str} (k : Nat) {acc : Str}, PyData.strOk acc = true → (∀ t ∈ ts, PyData.strOk t = true) → PyData.strOk (textFrom k acc ts) = true
  | [], _, _, ha, _ => ha
  | t :: ts, k, acc, ha, h => by
    refine strOk_from (k + 1) (strOk_app (strOk_app ha ?_) (h t List.mem_cons_self)) fun u hu => h u (List.mem_cons_of_mem _ hu)
    exact strOk_of _
theorem strOk_list {ts : List Str} (h : ∀ t ∈ ts, PyData.strOk t = true) : PyData.strOk (listText ts) = true := strOk_app (strOk_from 0 (strOk_of _) h) (strOk_of _)
theorem strOk_tup {ts : List Str} (h : ∀ t ∈ ts, PyData.strOk t = true) : PyData.strOk (tupleText ts) = true := strOk_app (strOk_app (strOk_of _) (strOk_join (strOk_of _) h)) (strOk_of _)
/-- small data without texts -/
def smD : Nat → D → Bool
  | _, .none => true
  | _, .bool _ => true
  | _, .int i => decide (i.natAbs < 1000000000000000000000000)
  | n + 1, .list xs => decide (xs.length ≤ 10) && xs.all (smD n)
  | n + 1, .tuple xs => decide (xs.length ≤ 10) && xs.all (smD n)
  | _, _ => false
theorem shownAll_map : ∀ xs : List D, PyData.shownAll xs = xs.map PyData.shown
  | [] => by simp only [PyData.shownAll, List.map_nil]
  | x :: xs => by simp only [PyData.shownAll, List.map_cons, shownAll_map xs]
theorem showableAll_map : ∀ xs : List D, PyData.showableAll xs = xs.all PyData.showable
  | [] => by simp only [PyData.showableAll, List.all_nil]
  | x :: xs => by simp only [PyData.showableAll, List.all_cons, showableAll_map xs]
theorem shortAll_map (B : Nat) : ∀ xs : List D, PyData.leavesShortAll B xs = xs.all (PyData.leavesShort B)
  | [] => by simp only [PyData.leavesShortAll, List.all_nil]
  | x :: xs => by simp only [PyData.leavesShortAll, List.all_cons, shortAll_map B xs]
theorem weightAll_le {w : Nat} : ∀ xs : List D, (∀ x ∈ xs, PyData.weight x ≤ w) → PyData.weightAll xs ≤ xs.length * (w + 1)
  | [], _ => by simp only [PyData.weightAll]; exact Nat.zero_le _
  | x :: xs, h => by
    have a := h x List.mem_cons_self
    have b := weightAll_le xs fun y hy => h y (List.mem_cons_of_mem _ hy)
    simp only [PyData.weightAll, List.length_cons]
    rw [Nat.add_mul]
    omega
def wB : Nat → Nat
  | 0 => 90
  | n + 1 => 10 * (wB n + 1)
theorem wB_le : ∀ n, 90 ≤ wB n
  | 0 => Nat.le_refl _
  | n + 1 => by have := wB_le n; show 90 ≤ 10 * (wB n + 1); omega
structure Sm (n : Nat) (d : D) : Prop where
  s : PyData.strOk d.shown = true
  a : d.showable = true
  l : d.leavesShort 25 = true
  w : d.weight ≤ wB n
  o : okD n d = true
theorem sm_int (n : Nat) {i : Int} (h : i.natAbs < 1000000000000000000000000) : Sm n (.int i) := by
  have hl : i.natAbs.log2 < 80 := by
    by_cases h0 : i.natAbs = 0
    · rw [h0]; decide
    · exact (Nat.log2_lt h0).mpr (by have : (1000000000000000000000000 : Nat) < 2 ^ 80 := by decide
                                     omega)
  refine ⟨strOk_of _, ?_, ?_, ?_, by cases n <;> rfl⟩
  · simp only [PyData.showable]
    exact decide_eq_true (by omega)
  · simp only [PyData.leavesShort]
    apply decide_eq_true
    have e := int_text_length_le10 (k := 24) (by decide) (show i.natAbs < 10 ^ 24 from h)
    show (Str.ofString (toString i)).length ≤ 25
    rw [ofString_length]
    exact e
  · have := wB_le n
    simp only [PyData.weight]
    split <;> omega
theorem sm_seq {n : Nat} {xs : List D} (h1 : xs.length ≤ 10) (h : ∀ x ∈ xs, Sm n x) : Sm (n + 1) (.list xs) ∧ Sm (n + 1) (.tuple xs) := by
  have hs : ∀ t ∈ xs.map PyData.shown, PyData.strOk t = true := fun t ht => by
    obtain ⟨x, hx, rfl⟩ := List.mem_map.mp ht
    exact (h x hx).s
  have ha : xs.all PyData.showable = true := List.all_eq_true.mpr fun x hx => (h x hx).a
  have hl : xs.all (PyData.leavesShort 25) = true := List.all_eq_true.mpr fun x hx => (h x hx).l
  have hw := weightAll_le xs fun x hx => (h x hx).w
  have hw2 : PyData.weightAll xs ≤ wB (n + 1) := Nat.le_trans hw (Nat.mul_le_mul_right _ h1)
  have ho : (decide (xs.length < SZ) && xs.all (okD n)) = true := by
    rw [decide_eq_true (by unfold SZ; omega), Bool.true_and]
    exact List.all_eq_true.mpr fun x hx => (h x hx).o
  constructor
  · refine ⟨?_, ?_, ?_, ?_, ho⟩
    · simp only [PyData.shown, shownAll_map]
      exact strOk_list hs
    · simp only [PyData.showable, showableAll_map]
      exact ha
    · simp only [PyData.leavesShort, shortAll_map]
      exact hl
    · simp only [PyData.weight]
      exact hw2
  · refine ⟨?_, ?_, ?_, ?_, ho⟩
    · simp only [PyData.shown, shownAll_map]
      exact strOk_tup hs
    · simp only [PyData.showable, showableAll_map]
      exact ha
    · simp only [PyData.leavesShort, shortAll_map]
      exact hl
    · simp only [PyData.weight]
      exact hw2
theorem sm_of : ∀ (n : Nat) (d : D), smD n d = true → Sm n d
  | n, .none, _ => ⟨strOk_of _, by simp only [PyData.showable], by simp only [PyData.leavesShort], by simp only [PyData.weight]; exact Nat.zero_le _, by cases n <;> rfl⟩
  | n, .bool b, _ => ⟨by cases b <;> exact strOk_of _, by simp only [PyData.showable], by simp only [PyData.leavesShort], by simp only [PyData.weight]; exact Nat.zero_le _, by cases n <;> rfl⟩
  | n, .int i, h => sm_int n (of_decide_eq_true (by cases n <;> exact h))
  | n, .str _, h => by cases n <;> cases h
  | n, .dict _, h => by cases n <;> cases h
  | 0, .list _, h => by cases h
  | 0, .tuple _, h => by cases h
  | n + 1, .list xs, h => by
    have z := Bool.and_eq_true_iff.mp h
    exact (sm_seq (of_decide_eq_true z.1) fun x hx => sm_of n x (List.all_eq_true.mp z.2 x hx)).1
  | n + 1, .tuple xs, h => by
    have z := Bool.and_eq_true_iff.mp h
    exact (sm_seq (of_decide_eq_true z.1) fun x hx => sm_of n x (List.all_eq_true.mp z.2 x hx)).2
theorem rpr_ok {n : Nat} {d : D} (hn : n ≤ 3) (h : smD n d = true) (di : PyProof.Rows.isDisplay d = true) : rprD d = some (.fz (.str d.shown)) ∧ cmpD .eq (.str d.shown) (.str d.shown) = some true ∧ cmpD .ne (.str d.shown) (.str d.shown) = some false := by
  have s := sm_of n d h
  have sh : SeqAt.shaped (.str d.shown) = true := shaped_str s.s
  have c := cmp_refl (n := 0) (d := .str d.shown) sh (by decide)
  refine ⟨?_, c.1, c.2⟩
  have len := PyData.shown_le 25 (by decide) d s.l
  have w3 : wB n ≤ 91110 := by
    have : n = 0 ∨ n = 1 ∨ n = 2 ∨ n = 3 := by omega
    rcases this with rfl | rfl | rfl | rfl <;> decide
  have hw := s.w
  unfold rprD
  rw [di, okD_shaped s.o (by omega), s.a, decide_eq_true (by unfold SZ; omega)]
  rfl
end PF

namespace PFL
open PySem PF MG
def sq (b : Bool) (ds : List D) : D := if b then .tuple ds else .list ds
def rwQ (b : Bool) (k : Nat) (g : Mx) (i : Nat) : D := sq b ((List.range k).map fun j => oi (g i j))
def gQ (b : Bool) (k : Nat) (g : Mx) : D := sq b ((List.range k).map (rwQ b k g))
theorem rg_nat (n : Nat) : rangeD 0 n = (List.range n).map fun i => PyData.int (i : Nat) := by
  unfold rangeD
  apply List.map_congr_left
  intro i _
  rw [Int.zero_add]
theorem rngN {n : Nat} (h : n ≤ 1000000) : rngOk (n : Int) = true := by
  unfold rngOk
  rw [decide_eq_true (by omega), decide_eq_true (by omega)]
  rfl
theorem lcX_at {C : PF.Ctx} {own : List Nat} {tg : T} {cnd elt : E} {α : Type} (f : α → OV) (P : Nat → PF.Env → Prop) (R : Nat → α → Prop) : ∀ (ds : List D) (j : Nat), (∀ i d, ds[i]? = some d → ∀ ρ, P (j + i) ρ → ∃ x ρ', R (j + i) x ∧ P (j + i + 1) ρ' ∧ lturn C own tg cnd elt d ρ = some ([f x], ρ')) → ∀ ρ, P j ρ → ∃ (xs : List α) (ρ' : PF.Env), xs.length = ds.length ∧ (∀ i x, xs[i]? = some x → R (j + i) x) ∧ P (j + ds.length) ρ' ∧ lcX C own tg cnd elt ds ρ = some (xs.map f, ρ')
  | [], j, _, ρ, h => ⟨[], ρ, rfl, fun i x e => (by cases e), h, rfl⟩
  | d :: ds, j, hs, ρ, h => by
    obtain ⟨x, ρ1, r1, p1, e1⟩ := hs 0 d rfl ρ h
    obtain ⟨xs, ρ2, l2, r2, p2, e2⟩ := lcX_at f P R ds (j + 1) (fun i d' hd ρ' h' => by
      have := hs (i + 1) d' (by simpa using hd) ρ' (by rw [show j + (i + 1) = j + 1 + i by omega]; exact h')
      rw [show j + (i + 1) = j + 1 + i by omega] at this
      exact this) ρ1 p1
    refine ⟨x :: xs, ρ2, by rw [List.length_cons, List.length_cons, l2], fun i y e => ?_, ?_, ?_⟩
    · cases i with
      | zero =>
        have e : x = y := by simpa using e
        rw [← e]; exact r1
      | succ i =>
        rw [show j + (i + 1) = j + 1 + i by omega]
        exact r2 i y (by simpa using e)
    · rw [List.length_cons, show j + (ds.length + 1) = j + 1 + ds.length by omega]
      exact p2
    · rw [q_lcX_c, e1, xd_some, e2]
      rfl
/-- a drawn integer, or none -/
def OkO (B : Int) (o : Option Int) : Prop := ∀ c, o = some c → -B ≤ c ∧ c ≤ B
theorem ok_n (B : Int) : OkO B none := fun c e => nomatch e
theorem ok_s {B x : Int} (h1 : -B ≤ x) (h2 : x ≤ B) : OkO B (some x) := fun c e => by cases e; exact ⟨h1, h2⟩
theorem q_pow11 : binD .pow (.int 10) (.int 11) = some (.fz (.int 100000000000)) := pow_lit 10 11 _ (by decide) (by decide)
theorem q_pow12 : binD .pow (.int 10) (.int 12) = some (.fz (.int 1000000000000)) := pow_lit 10 12 _ (by decide) (by decide)
theorem q_pow13 : binD .pow (.int 10) (.int 13) = some (.fz (.int 10000000000000)) := pow_lit 10 13 _ (by decide) (by decide)
local macro_rules | `(tactic| walk_at "ev") => `(tactic| simp only [xRun, startE, List.map_cons, List.map_nil, List.length_cons, List.length_nil, Nat.zero_add, Nat.reduceAdd, Nat.reduceSub, decide_true, List.cons_append, List.nil_append, List.append_nil, List.getElem?_cons_zero, List.getElem?_cons_succ, List.replicate, List.set_cons_zero, List.set_cons_succ, Int.cast_ofNat_Int, Int.reduceToNat, Int.reduceLE, Int.reduceLT, Int.reducePow, Int.reduceNeg, Int.reduceAdd, Int.reduceSub, Int.reduceMul, Int.reduceBEq, Int.reduceBNe, if_true, if_false, ↓reduceIte, Int.toNat_zero, List.not_mem_nil, not_false_eq_true, List.any_cons, List.any_nil, Bool.or_true, Bool.true_or, Bool.or_false, Bool.false_or, Bool.not_true, Bool.not_false, Bool.and_true, Bool.true_and, Bool.and_false, Bool.false_and, Nat.reduceLT, Nat.reduceLeDiff, bne_self_eq_false, Int.toNat_natCast, beq_self_eq_true, ds_fzs, Bool.false_eq_true, List.isEmpty_cons, List.isEmpty_nil, decide_false, wB0, wB1, wB2, wB3, wB4, wFor, wLcY, wLcX, wLc2, wZip, wZipM, wLz, wMm, wCmp, wSlc, wIdx, q_abs_int, q_add_list, q_add_tup, q_bT_tl, q_bT_tp, q_items_t, q_ix, q_mul_list, q_mul_tup, oi_n, oi_s, q_pow12, q_pow11, *])
theorem limit_eq (W n : Nat) {m : Nat} {l : List OV} (b : Bx (m + 5) l) : ∃ (o : Option Int) (l' : List OV), OkO 1000000000000 o ∧ Bx m l' ∧ evF fns W (n + 4) 9 [.ol l] = some (.fz (oi o), [.ol l']) := by
  obtain ⟨r1, l1, e1, b1, p1, q1⟩ := take_specB (F := fns) (t := 5) rfl W (n + 2) (m := m + 4) b (k := 9) (by decide) (by decide)
  obtain ⟨r2, l2, e2, b2, p2, q2⟩ := take_specB (F := fns) (t := 5) rfl W (n + 2) (m := m + 3) b1 (k := 9) (by decide) (by decide)
  obtain ⟨r3, l3, e3, b3, p3, q3⟩ := take_wideB (F := fns) (t := 5) rfl W 1 (n + 1) (m + 1) 1000000000000 l2 b2 (by decide) (by decide) (by decide)
  obtain ⟨d, l4, e4, b4, hd⟩ := of_specB (F := fns) (t := 5) (g := 7) rfl rfl W (n + 1) (m := m) b3 (xs := [.none, .none, .int (r1 - 3), .int (r2 - 3), .int 0, .int (r3 - 100000000000)]) (Nat.succ_pos _) (by show 6 ≤ 10 ^ 7; decide)
  obtain ⟨o, rfl, ok⟩ : ∃ o, d = oi o ∧ OkO 1000000000000 o := by
    simp only [List.mem_cons, List.not_mem_nil, or_false] at hd
    rcases hd with rfl | rfl | rfl | rfl | rfl | rfl
    · exact ⟨none, rfl, ok_n _⟩
    · exact ⟨none, rfl, ok_n _⟩
    · exact ⟨some _, rfl, ok_s (by omega) (by omega)⟩
    · exact ⟨some _, rfl, ok_s (by omega) (by omega)⟩
    · exact ⟨some _, rfl, ok_s (by omega) (by omega)⟩
    · exact ⟨some _, rfl, ok_s (by omega) (by omega)⟩
  refine ⟨o, l4, ok, b4, ?_⟩
  generalize oi o = O at *
  clear hd b b1 b2 b3 b4 ok p1 p2 p3 q1 q2 q3
  have z6 : decide (6 ≤ SZ) = true := by decide
  rw [ev_call (f := PFL.f9) rfl]
  unfold PFL.f9
  walk_at "ev"
def b18 : Ss := match PFL.f10.body with
  | .cons _ (.cons (.for_ _ _ b) _) => b
  | _ => .nil
local macro_rules | `(tactic| walk_at "ev") => `(tactic| simp only [xRun, startE, List.map_cons, List.map_nil, List.length_cons, List.length_nil, Nat.zero_add, Nat.reduceAdd, Nat.reduceSub, decide_true, List.cons_append, List.nil_append, List.append_nil, List.getElem?_cons_zero, List.getElem?_cons_succ, List.replicate, List.set_cons_zero, List.set_cons_succ, Int.cast_ofNat_Int, Int.reduceToNat, Int.reduceLE, Int.reduceLT, Int.reducePow, Int.reduceNeg, Int.reduceAdd, Int.reduceSub, Int.reduceMul, Int.reduceBEq, Int.reduceBNe, if_true, if_false, ↓reduceIte, Int.toNat_zero, List.not_mem_nil, not_false_eq_true, List.any_cons, List.any_nil, Bool.or_true, Bool.true_or, Bool.or_false, Bool.false_or, Bool.not_true, Bool.not_false, Bool.and_true, Bool.true_and, Bool.and_false, Bool.false_and, Nat.reduceLT, Nat.reduceLeDiff, bne_self_eq_false, Int.toNat_natCast, beq_self_eq_true, ds_fzs, Bool.false_eq_true, List.isEmpty_cons, List.isEmpty_nil, decide_false, wB0, wB1, wB2, wB3, wB4, wFor, wLc2, wZip, wZipM, wLz, wMm, wCmp, wSlc, wIdx, q_abs_int, q_add_list, q_add_tup, q_bT_tl, q_bT_tp, q_items_t, q_ix, q_mul_list, q_mul_tup, oi_n, oi_s, q_pow12, q_pow11, *])
/-- a row with 0 at its own place -/
theorem row_lc (W n : Nat) {m k i : Nat} (hk : k ≤ 5) {l : List OV} (b : Bx (m + 25) l) (x2 x4 : Option OV) : ∃ (L : List (Option Int)) (l' : List OV), L.length = k ∧ (∀ x, L[i]? = some x → x = some 0) ∧ (∀ x ∈ L, OkO 1000000000000 x) ∧ Bx m l' ∧ lcY ⟨evF fns W (n + 4), W⟩ [4] (.nm 4) (.c (.bool true)) (.ite (.cmp .eq (.v 3) (.v 4)) (.c (.int 0)) (.call 9 (.io 0 .nil))) (rangeD 0 k) [some (.ol l), some (oI (k : Nat)), x2, some (oI (i : Nat)), x4] = some (.ol (L.map fun o => OV.fz (oi o)), [some (.ol l'), some (oI (k : Nat)), x2, some (oI (i : Nat)), x4]) := by
  obtain ⟨L, ρ', h1, h2, ⟨l2, o4, b2, rfl⟩, eL⟩ := lcX_at (C := ⟨evF fns W (n + 4), W⟩) (own := [4]) (tg := .nm 4) (cnd := .c (.bool true)) (elt := .ite (.cmp .eq (.v 3) (.v 4)) (.c (.int 0)) (.call 9 (.io 0 .nil))) (fun o => OV.fz (oi o)) (fun j ρ => ∃ l2 o4, Bx (m + 5 * (k - j)) l2 ∧ ρ = [some (.ol l2), some (oI (k : Nat)), x2, some (oI (i : Nat)), o4]) (fun j o => (j = i → o = some 0) ∧ OkO 1000000000000 o) (rangeD 0 k) 0 (by
    rintro j d hd ρ ⟨l2, o4, b2, rfl⟩
    have hj : j < k := by
      have := (List.getElem?_eq_some_iff.mp hd).1
      rwa [range_len] at this
    have ed : d = .int (j : Nat) := by
      rw [rg_nat, List.getElem?_map, List.getElem?_range hj] at hd
      exact (Option.some.inj hd).symm
    subst ed
    rw [Nat.zero_add] at b2 ⊢
    by_cases h : i = j
    · refine ⟨some 0, [some (.ol l2), some (oI (k : Nat)), x2, some (oI (i : Nat)), some (oI (j : Nat))], ⟨fun _ => rfl, ok_s (by decide) (by decide)⟩, ⟨l2, _, b2.mono (by omega), rfl⟩, ?_⟩
      have c : ((i : Int) == (j : Int)) = true := beq_iff_eq.mpr (by omega)
      clear h hj hd b b2 hk
      walk_at "ev"
    · obtain ⟨o, l3, ok, b3, e3⟩ := limit_eq W n (m := m + 5 * (k - (j + 1))) (l := l2) (b2.mono (by omega))
      refine ⟨o, [some (.ol l3), some (oI (k : Nat)), x2, some (oI (i : Nat)), some (oI (j : Nat))], ⟨fun e => absurd e.symm h, ok⟩, ⟨l3, _, b3, rfl⟩, ?_⟩
      have c : ((i : Int) == (j : Int)) = false := beq_eq_false_iff_ne.mpr (by omega)
      clear h hj hd b b2 b3 hk ok
      generalize oi o = O at *
      walk_at "ev") [some (.ol l), some (oI (k : Nat)), x2, some (oI (i : Nat)), x4] ⟨l, x4, b.mono (by omega), rfl⟩
  rw [range_len] at h1
  refine ⟨L, l2, h1, fun x hx => (h2 i x hx).1 (Nat.zero_add i), fun x hx => ?_, b2.mono (by omega), ?_⟩
  · obtain ⟨q, hq⟩ := List.getElem?_of_mem hx
    exact (h2 q x hq).2
  unfold lcY
  rw [eL]
  show gd (decide _) (some (OV.ol _, backE _ _ [4])) = _
  rw [decide_eq_true (by rw [List.length_map, h1]; unfold SZ; omega)]
  rfl
def mkM (F : List (List (Option Int))) : Mx := fun i j => ((F.getD i []).getD j none)
theorem mk_row {F : List (List (Option Int))} {k i : Nat} {L : List (Option Int)} (h : F[i]? = some L) (hL : L.length = k) : rwQ true k (mkM F) i = .tuple (L.map oi) := by
  unfold rwQ mkM
  show PyData.tuple _ = _
  congr 1
  rw [List.getD_eq_getElem?_getD, h]
  apply List.ext_getElem?
  intro j
  rw [List.getElem?_map, List.getElem?_map]
  by_cases hj : j < k
  · rw [List.getElem?_range hj, List.getElem?_eq_getElem (by omega)]
    show some (oi (L.getD j none)) = _
    rw [List.getD_eq_getElem?_getD, List.getElem?_eq_getElem (by omega)]
    rfl
  · rw [List.getElem?_eq_none (by rw [List.length_range]; omega), List.getElem?_eq_none (by omega)]
    rfl
theorem mk_gaps {F : List (List (Option Int))} {k : Nat} (hF : F.length = k) (hL : ∀ L ∈ F, L.length = k) : gapsT k (mkM F) = .tuple (F.map fun L => PyData.tuple (L.map oi)) := by
  show PyData.tuple ((List.range k).map (rwQ true k (mkM F))) = _
  congr 1
  apply List.ext_getElem?
  intro i
  rw [List.getElem?_map, List.getElem?_map]
  by_cases hi : i < k
  · rw [List.getElem?_range hi]
    have e : F[i]? = some (F[i]'(by omega)) := List.getElem?_eq_getElem _
    rw [e]
    show some (rwQ true k (mkM F) i) = some _
    rw [mk_row e (hL _ (List.getElem_mem _))]
  · rw [List.getElem?_eq_none (by rw [List.length_range]; omega), List.getElem?_eq_none (by omega)]
    rfl
theorem mk_ok {F : List (List (Option Int))} {B : Int} (h : ∀ L ∈ F, ∀ x ∈ L, OkO B x) (i j : Nat) : OkO B (mkM F i j) := by
  unfold mkM
  rw [List.getD_eq_getElem?_getD, List.getD_eq_getElem?_getD]
  cases e : F[i]? with
  | none => exact ok_n B
  | some L =>
    rw [Option.getD_some]
    cases e2 : L[j]? with
    | none => exact ok_n B
    | some x => exact h L (List.mem_of_getElem? e) x (List.mem_of_getElem? e2)
theorem rows_eq (W n : Nat) {m k : Nat} (hk : k ≤ 5) {l : List OV} (b : Bx (m + 125) l) : ∃ (M : Mx) (l' : List OV), (∀ i < k, M i i = some 0) ∧ (∀ i j, OkO 1000000000000 (M i j)) ∧ Bx m l' ∧ evF fns W (n + 5) 10 [.ol l, oI (k : Nat)] = some (.fz (gapsT k M), [.ol l']) := by
  have key : ∀ j, j ≤ k → ∀ (F : List (List (Option Int))), F.length = j → True := fun _ _ _ _ => trivial
  obtain ⟨ρ', ⟨F, l', o3, hF, hL, hd, b', rfl⟩, e⟩ := forX_range (C := ⟨evF fns W (n + 4), W⟩) (t := .nm 3) (b := b18) (n := k) (fun i ρ => ∃ (F : List (List (Option Int))) (l2 : List OV) (o3 : Option OV), F.length = i ∧ (∀ L ∈ F, L.length = k ∧ ∀ x ∈ L, OkO 1000000000000 x) ∧ (∀ (r : Nat) (L : List (Option Int)) (x : Option Int), F[r]? = some L → L[r]? = some x → x = some 0) ∧ Bx (m + 25 * (k - i)) l2 ∧ ρ = [some (.ol l2), some (oI (k : Nat)), some (.ol (fzs (F.map fun L => PyData.tuple (L.map oi)))), o3, none]) (by
    rintro i hi ρ ⟨F, l2, o3, hF, hL, hd, b2, rfl⟩
    obtain ⟨L, l3, h1, h2, h3, b3, eR⟩ := row_lc W n (m := m + 25 * (k - (i + 1))) (i := i) hk (l := l2) (b2.mono (by omega)) (some (.ol (fzs (F.map fun L => PyData.tuple (L.map oi))))) none
    refine ⟨_, ⟨F ++ [L], l3, some (oI (i : Nat)), by rw [List.length_append, hF]; rfl, fun z hz => ?_, fun r z x hr hx => ?_, b3, rfl⟩, ?_⟩
    · rcases List.mem_append.mp hz with hz | hz
      · exact hL z hz
      · rw [List.mem_singleton.mp hz]; exact ⟨h1, h3⟩
    · by_cases q : r < F.length
      · rw [List.getElem?_append_left q] at hr
        exact hd r z x hr hx
      · rw [List.getElem?_append_right (by omega)] at hr
        have q2 : r = i := by
          have := (List.getElem?_eq_some_iff.mp hr).1
          rw [List.length_singleton] at this
          omega
        subst q2
        rw [hF, Nat.sub_self] at hr
        have e : L = z := Option.some.inj hr
        subst e
        exact h2 x hx
    · have dd : OV.ds (L.map fun o => OV.fz (oi o)) = L.map oi := by
        rw [OV.ds_map, List.map_map]
        rfl
      have ea : fzs ((F ++ [L]).map fun L => PyData.tuple (L.map oi)) = fzs (F.map fun L => PyData.tuple (L.map oi)) ++ [.fz (.tuple (L.map oi))] := by
        rw [List.map_append]
        unfold fzs
        rw [List.map_append]
        rfl
      have hs : decide ((fzs (F.map fun L => PyData.tuple (L.map oi))).length < SZ) = true := decide_eq_true (by
        unfold fzs
        rw [List.length_map, List.length_map, hF]
        unfold SZ
        omega)
      have rk : rngOk ((k : Nat) : Int) = true := rngN (by omega)
      rw [ea]
      clear ea b b2 b3 hF hL hd h1 h2 h3 hi key hk
      generalize (L.map fun o => OV.fz (oi o)) = LO at *
      generalize L.map oi = LD at *
      generalize fzs (F.map fun L => PyData.tuple (L.map oi)) = FF at *
      unfold b18 PFL.f10
      walk_at "ev") (ρ := [some (.ol l), some (oI (k : Nat)), some (.ol []), none, none]) ⟨[], l, none, rfl, fun _ h => absurd h List.not_mem_nil, (fun r L x h => (by cases h)), b.mono (by omega), rfl⟩
  refine ⟨mkM F, l', fun i hi => ?_, mk_ok fun L h => (hL L h).2, b'.mono (by omega), ?_⟩
  · have e1 : F[i]? = some (F[i]'(by omega)) := List.getElem?_eq_getElem _
    have hl := (hL _ (List.getElem_mem (show i < F.length by omega))).1
    have e2 : (F[i]'(by omega))[i]? = some ((F[i]'(by omega))[i]'(by omega)) := List.getElem?_eq_getElem _
    have := hd i _ _ e1 e2
    show ((F.getD i []).getD i none) = some 0
    rw [show F.getD i [] = F[i]'(by omega) by rw [List.getD_eq_getElem?_getD, e1]; rfl, List.getD_eq_getElem?_getD, e2]
    exact this
  · rw [mk_gaps hF fun L h => (hL L h).1]
    have rk : rngOk ((k : Nat) : Int) = true := rngN (by omega)
    have tk : ((k : Nat) : Int).toNat = k := rfl
    have dz := ds_fzs (F.map fun L => PyData.tuple (L.map oi))
    have z0 : decide (0 ≤ SZ) = true := by decide
    clear key hF hL hd b b' hk
    generalize (F.map fun L => PyData.tuple (L.map oi)) = FD at *
    generalize fzs FD = FF at *
    unfold b18 PFL.f10 at e
    rw [ev_call (f := PFL.f10) rfl]
    unfold PFL.f10
    walk_at "ev"
end PFL

namespace PFL
open PySem PF MG
def b19 : Ss := match PFL.f11.body with
  | .cons _ (.cons (.for_ _ _ b) _) => b
  | _ => .nil
def prO (p : Option Int × Option Int) : OV := .fz (.tuple [oi p.1, oi p.2])
local macro_rules | `(tactic| walk_at "ev") => `(tactic| simp only [xRun, startE, List.map_cons, List.map_nil, List.length_cons, List.length_nil, Nat.zero_add, Nat.reduceAdd, Nat.reduceSub, decide_true, List.cons_append, List.nil_append, List.append_nil, List.getElem?_cons_zero, List.getElem?_cons_succ, List.replicate, List.set_cons_zero, List.set_cons_succ, Int.cast_ofNat_Int, Int.reduceToNat, Int.reduceLE, Int.reduceLT, Int.reducePow, Int.reduceNeg, Int.reduceAdd, Int.reduceSub, Int.reduceMul, Int.reduceBEq, Int.reduceBNe, if_true, if_false, ↓reduceIte, Int.toNat_zero, List.not_mem_nil, not_false_eq_true, List.any_cons, List.any_nil, Bool.or_true, Bool.true_or, Bool.or_false, Bool.false_or, Bool.not_true, Bool.not_false, Bool.and_true, Bool.true_and, Bool.and_false, Bool.false_and, Nat.reduceLT, Nat.reduceLeDiff, bne_self_eq_false, Int.toNat_natCast, beq_self_eq_true, ds_fzs, Bool.false_eq_true, List.isEmpty_cons, List.isEmpty_nil, decide_false, wB0, wB1, wB2, wB3, wB4, wLcY, wLcX, wLc2, wZip, wZipM, wLz, wMm, wCmp, wSlc, wIdx, q_abs_int, q_add_list, q_add_tup, q_bT_tl, q_bT_tp, q_items_t, q_ix, q_mul_list, q_mul_tup, oi_n, oi_s, q_pow12, q_pow13, *])
theorem ends_turn (W n : Nat) {m i : Nat} {l : List OV} (b : Bx (m + 5) l) (F : List OV) (hF : F.length ≤ 1000) (x1 x3 x4 x5 x6 : Option OV) : ∃ (p : Option Int × Option Int) (l' : List OV) (y4 y5 y6 : Option OV), (OkO 100000000000000 p.1 ∧ OkO 100000000000000 p.2) ∧ Bx m l' ∧ turn ⟨evF fns W (n + 3), W⟩ (.nm 3) b19 (.int (i : Nat)) [some (.ol l), x1, some (.ol F), x3, x4, x5, x6] = some (.nx [some (.ol l'), x1, some (.ol (F ++ [prO p])), some (oI (i : Nat)), y4, y5, y6]) := by
  obtain ⟨r1, l1, e1, b1, p1, q1⟩ := take_specB (F := fns) (t := 5) rfl W (n + 2) (m := m + 4) b (k := 9) (by decide) (by decide)
  obtain ⟨r2, l2, e2, b2, p2, q2⟩ := take_specB (F := fns) (t := 5) rfl W (n + 2) (m := m + 3) b1 (k := 9) (by decide) (by decide)
  obtain ⟨d, l3, e3, b3, hd⟩ := of_specB (F := fns) (t := 5) (g := 7) rfl rfl W (n + 1) (m := m + 2) b2 (xs := [.none, .int (r1 - 4), .int (r2 - 4), .int 1000000000000]) (Nat.succ_pos _) (by show 4 ≤ 10 ^ 7; decide)
  obtain ⟨r4, l4, e4, b4, p4, q4⟩ := take_specB (F := fns) (t := 5) rfl W (n + 2) (m := m + 1) b3 (k := 7) (by decide) (by decide)
  obtain ⟨w, l5, e5, b5, hw⟩ := of_specB (F := fns) (t := 5) (g := 7) rfl rfl W (n + 1) (m := m) b4 (xs := [.none, .int 0, .int r4, .int 10000000000000]) (Nat.succ_pos _) (by show 4 ≤ 10 ^ 7; decide)
  obtain ⟨a, rfl, oa⟩ : ∃ o, d = oi o ∧ OkO 1000000000000 o := by
    simp only [List.mem_cons, List.not_mem_nil, or_false] at hd
    rcases hd with rfl | rfl | rfl | rfl
    · exact ⟨none, rfl, ok_n _⟩
    · exact ⟨some _, rfl, ok_s (by omega) (by omega)⟩
    · exact ⟨some _, rfl, ok_s (by omega) (by omega)⟩
    · exact ⟨some _, rfl, ok_s (by omega) (by omega)⟩
  obtain ⟨c, rfl, oc⟩ : ∃ o, w = oi o ∧ OkO 10000000000000 o := by
    simp only [List.mem_cons, List.not_mem_nil, or_false] at hw
    rcases hw with rfl | rfl | rfl | rfl
    · exact ⟨none, rfl, ok_n _⟩
    · exact ⟨some _, rfl, ok_s (by omega) (by omega)⟩
    · exact ⟨some _, rfl, ok_s (by omega) (by omega)⟩
    · exact ⟨some _, rfl, ok_s (by omega) (by omega)⟩
  have z4 : decide (4 ≤ SZ) = true := by decide
  have z2 : decide (2 ≤ SZ) = true := by decide
  have hs : decide (F.length < SZ) = true := decide_eq_true (by unfold SZ; omega)
  clear hd hw b b1 b2 b3 b4 hF p1 q1 p2 q2 p4 q4
  cases a with
  | none =>
    cases c with
    | none =>
      refine ⟨(none, none), l5, some (.fz .none), some (.fz .none), some (oI 0), ⟨ok_n _, ok_n _⟩, b5, ?_⟩
      clear oa oc
      show _ = some (Fl.nx [_, _, some (.ol (F ++ [.fz (.tuple [.none, .none])])), _, _, _, _])
      clear b5
      simp only [oi_n, oi_s] at *
      unfold b19 PFL.f11
      walk_at "ev"
    | some y =>
      refine ⟨(none, some (0 + y)), l5, some (.fz .none), some (oI y), some (oI 0), ⟨ok_n _, by have := oc y rfl; exact ok_s (by omega) (by omega)⟩, b5, ?_⟩
      clear oa oc
      show _ = some (Fl.nx [_, _, some (.ol (F ++ [.fz (.tuple [.none, .int (0 + y)])])), _, _, _, _])
      clear b5
      simp only [oi_n, oi_s] at *
      unfold b19 PFL.f11
      walk_at "ev"
  | some x =>
    cases c with
    | none =>
      refine ⟨(some x, none), l5, some (oI x), some (.fz .none), some (oI x), ⟨by have := oa x rfl; exact ok_s (by omega) (by omega), ok_n _⟩, b5, ?_⟩
      clear oa oc
      show _ = some (Fl.nx [_, _, some (.ol (F ++ [.fz (.tuple [.int x, .none])])), _, _, _, _])
      clear b5
      simp only [oi_n, oi_s] at *
      unfold b19 PFL.f11
      walk_at "ev"
    | some y =>
      refine ⟨(some x, some (x + y)), l5, some (oI x), some (oI y), some (oI x), ⟨by have := oa x rfl; exact ok_s (by omega) (by omega), by have := oa x rfl; have := oc y rfl; exact ok_s (by omega) (by omega)⟩, b5, ?_⟩
      clear oa oc
      show _ = some (Fl.nx [_, _, some (.ol (F ++ [.fz (.tuple [.int x, .int (x + y)])])), _, _, _, _])
      clear b5
      simp only [oi_n, oi_s] at *
      unfold b19 PFL.f11
      walk_at "ev"
theorem ends_eq (W n : Nat) {m k : Nat} (hk : k ≤ 4) {l : List OV} (b : Bx (m + 20) l) : ∃ (lo hi : Nat → Option Int) (l' : List OV), (∀ i, OkO 100000000000000 (lo i)) ∧ (∀ i, OkO 100000000000000 (hi i)) ∧ Bx m l' ∧ evF fns W (n + 4) 11 [.ol l, oI (k : Nat)] = some (.ol ((List.range k).map fun i => OV.fz (.tuple [oi (lo i), oi (hi i)])), [.ol l']) := by
  obtain ⟨ρ', ⟨E, l', o3, o4, o5, o6, hE, hO, b', rfl⟩, e⟩ := forX_range (C := ⟨evF fns W (n + 3), W⟩) (t := .nm 3) (b := b19) (n := k) (fun i ρ => ∃ (E : List (Option Int × Option Int)) (l2 : List OV) (o3 o4 o5 o6 : Option OV), E.length = i ∧ (∀ p ∈ E, OkO 100000000000000 p.1 ∧ OkO 100000000000000 p.2) ∧ Bx (m + 5 * (k - i)) l2 ∧ ρ = [some (.ol l2), some (oI (k : Nat)), some (.ol (E.map prO)), o3, o4, o5, o6]) (by
    rintro i hi ρ ⟨E, l2, o3, o4, o5, o6, hE, hO, b2, rfl⟩
    obtain ⟨p, l3, y4, y5, y6, po, b3, e3⟩ := ends_turn W n (m := m + 5 * (k - (i + 1))) (i := i) (l := l2) (b2.mono (by omega)) (E.map prO) (by rw [List.length_map]; omega) (some (oI (k : Nat))) o3 o4 o5 o6
    exact ⟨_, ⟨E ++ [p], l3, some (oI (i : Nat)), y4, y5, y6, by rw [List.length_append, hE]; rfl, fun q hq => by
      rcases List.mem_append.mp hq with hq | hq
      · exact hO q hq
      · rw [List.mem_singleton.mp hq]; exact po, b3, by rw [List.map_append]; rfl⟩, e3⟩) (ρ := [some (.ol l), some (oI (k : Nat)), some (.ol []), none, none, none, none]) ⟨[], l, none, none, none, none, rfl, fun _ h => absurd h List.not_mem_nil, b.mono (by omega), rfl⟩
  have hO2 : ∀ i, OkO 100000000000000 (E.getD i (none, none)).1 ∧ OkO 100000000000000 (E.getD i (none, none)).2 := fun i => by
    rw [List.getD_eq_getElem?_getD]
    cases e : E[i]? with
    | none => exact ⟨ok_n _, ok_n _⟩
    | some p => exact hO p (List.mem_of_getElem? e)
  refine ⟨fun i => (E.getD i (none, none)).1, fun i => (E.getD i (none, none)).2, l', fun i => (hO2 i).1, fun i => (hO2 i).2, b'.mono (by omega), ?_⟩
  have ee : ((List.range k).map fun i => OV.fz (.tuple [oi (E.getD i (none, none)).1, oi (E.getD i (none, none)).2])) = E.map prO := by
    apply List.ext_getElem?
    intro i
    rw [List.getElem?_map, List.getElem?_map]
    by_cases hi : i < k
    · rw [List.getElem?_range hi, List.getElem?_eq_getElem (by omega)]
      show some (OV.fz (.tuple [oi (E.getD i (none, none)).1, oi (E.getD i (none, none)).2])) = some (prO _)
      rw [List.getD_eq_getElem?_getD, List.getElem?_eq_getElem (by omega)]
      rfl
    · rw [List.getElem?_eq_none (by rw [List.length_range]; omega), List.getElem?_eq_none (by omega)]
      rfl
  rw [ee]
  have rk : rngOk ((k : Nat) : Int) = true := rngN (by omega)
  have tk : ((k : Nat) : Int).toNat = k := rfl
  have z0 : decide (0 ≤ SZ) = true := by decide
  clear ee hE b b' hk hO hO2
  generalize E.map prO = EE at *
  unfold b19 PFL.f11 at e
  rw [ev_call (f := PFL.f11) rfl]
  unfold PFL.f11
  walk_at "ev"
end PFL

namespace PFL
open PySem PF MG
def spL (k : Nat) (lo hi : Nat → Option Int) : D := .list ((List.range k).map fun i => PyData.tuple [oi (lo i), oi (hi i)])
def tbD (n : Nat) (T : Mx) : D := .list ((List.range n).map (rowD n T))
local macro_rules | `(tactic| walk_at "ev") => `(tactic| simp only [xRun, startE, List.map_cons, List.map_nil, List.length_cons, List.length_nil, Nat.zero_add, Nat.reduceAdd, Nat.reduceSub, decide_true, List.cons_append, List.nil_append, List.append_nil, List.getElem?_cons_zero, List.getElem?_cons_succ, List.replicate, List.set_cons_zero, List.set_cons_succ, Int.cast_ofNat_Int, Int.reduceToNat, Int.reduceLE, Int.reduceLT, Int.reducePow, Int.reduceNeg, Int.reduceAdd, Int.reduceSub, Int.reduceMul, Int.reduceBEq, Int.reduceBNe, if_true, if_false, ↓reduceIte, Int.toNat_zero, List.not_mem_nil, not_false_eq_true, List.any_cons, List.any_nil, Bool.or_true, Bool.true_or, Bool.or_false, Bool.false_or, Bool.not_true, Bool.not_false, Bool.and_true, Bool.true_and, Bool.and_false, Bool.false_and, Nat.reduceLT, Nat.reduceLeDiff, bne_self_eq_false, Int.toNat_natCast, beq_self_eq_true, ds_fzs, Bool.false_eq_true, List.isEmpty_cons, List.isEmpty_nil, decide_false, wB0, wB1, wB2, wB3, wB4, wFor, wLcX, wLc2, wZip, wZipM, wLz, wMm, wCmp, wSlc, wIdx, q_abs_int, q_add_list, q_add_tup, q_bT_tl, q_bT_tp, q_items_t, q_ix, q_mul_list, q_mul_tup, oi_n, oi_s, *])
theorem zeroed_eq (W n : Nat) {k : Nat} (hk : k ≤ 100) (g : Mx) (lo hi : Nat → Option Int) : ∃ x, x.d = tbD (k + 1) (wsM k g lo hi) ∧ evF fns W (n + 1) 13 [.fz (gapsT k g), .fz (spL k lo hi)] = some (x, []) := by
  have hS : k < SZ := by unfold SZ; omega
  refine ⟨.ol (fzs ((List.range k).map (rowD (k + 1) (wsM k g lo hi)) ++ [.list ((List.range k).map (fun j => oi (ng (lo j))) ++ [.int 0])])), ?_, ?_⟩
  · show PyData.list (OV.ds (fzs _)) = .list _
    rw [ds_fzs, List.range_succ, List.map_append]
    congr 2
    show [PyData.list _] = [rowD (k + 1) (wsM k g lo hi) k]
    have e : rowD (k + 1) (wsM k g lo hi) k = .list (OV.ds (rowO (k + 1) (wsM k g lo hi) k)) := by
      unfold rowO rowD
      rw [ds_rng]
      rfl
    rw [e, ws_last, ds_fzs]
  have ez : zipD2 (gapsT k g) (spL k lo hi) = some ((List.range k).map fun i => PyData.tuple [rwQ true k g i, PyData.tuple [oi (lo i), oi (hi i)]]) := by
    show some (zipD ((List.range k).map (rwQ true k g)) _) = _
    rw [zip_rng]
  have e1 : ∀ x2, lcY ⟨evF fns W n, W⟩ [3, 4] (.tp (.cons (.nm 3) (.cons (.nm 4) .nil))) (.c (.bool true)) (.bin .add (.blt .list (.cons (.v 3) .nil)) (.lst (.cons (.idx (.v 4) (.c (.int 1))) .nil))) ((List.range k).map fun i => PyData.tuple [rwQ true k g i, PyData.tuple [oi (lo i), oi (hi i)]]) [some (.fz (gapsT k g)), some (.fz (spL k lo hi)), x2, none, none] = some (.ol ((List.range k).map fun i => OV.ol (rowO (k + 1) (wsM k g lo hi) i)), [some (.fz (gapsT k g)), some (.fz (spL k lo hi)), x2, none, none]) := by
    intro x2
    refine lcY_ix hS _ _ fun i hi' => ?_
    rw [ws_row hi']
    have z1 : decide (1 ≤ SZ) = true := by decide
    have z2 : decide (((List.range k).map fun j => oi (g i j)).length + 1 ≤ SZ) = true := decide_eq_true (by rw [len_rng]; unfold SZ; omega)
    have z3 : atD [oi (lo i), oi (hi i)] 1 = some (oi (hi i)) := rfl
    have zr : rwQ true k g i = .tuple ((List.range k).map fun j => oi (g i j)) := rfl
    refine ⟨[some (.fz (gapsT k g)), some (.fz (spL k lo hi)), x2, some (.fz (rwQ true k g i)), some (.fz (.tuple [oi (lo i), oi (hi i)]))], ?_, rfl⟩
    rw [zr]
    clear hi' hS hk ez zr
    generalize gapsT k g = G at *
    generalize spL k lo hi = S at *
    generalize ((List.range k).map fun j => oi (g i j)) = RW at *
    walk_at "ev"
  have e2 : ∀ x2, lcY ⟨evF fns W n, W⟩ [4] (.nm 4) (.c (.bool true)) (.ite (.isn false (.idx (.v 4) (.c (.int 0)))) (.c .none) (.bin .sub (.c (.int 0)) (.idx (.v 4) (.c (.int 0))))) ((List.range k).map fun i => PyData.tuple [oi (lo i), oi (hi i)]) [some (.fz (gapsT k g)), some (.fz (spL k lo hi)), x2, none, none] = some (.ol ((List.range k).map fun j => OV.fz (oi (ng (lo j)))), [some (.fz (gapsT k g)), some (.fz (spL k lo hi)), x2, none, none]) := by
    intro x2
    refine lcY_ix hS _ _ fun i hi' => ?_
    have z3 : atD [oi (lo i), oi (hi i)] 0 = some (oi (lo i)) := rfl
    refine ⟨[some (.fz (gapsT k g)), some (.fz (spL k lo hi)), x2, none, some (.fz (.tuple [oi (lo i), oi (hi i)]))], ?_, rfl⟩
    generalize hi i = HI at *
    clear hi' hS hk e1 ez
    generalize gapsT k g = G at *
    generalize spL k lo hi = S at *
    cases hl : lo i with
    | none =>
      rw [hl] at z3
      simp only [oi_n] at z3
      show _ = some ([OV.fz .none], _)
      walk_at "ev"
    | some x =>
      rw [hl] at z3
      simp only [oi_s] at z3
      have zz : (0 : Int) - x = -x := Int.zero_sub x
      show _ = some ([OV.fz (.int (-x))], _)
      walk_at "ev"
  have d1 : OV.ds ((List.range k).map fun i => OV.ol (rowO (k + 1) (wsM k g lo hi) i)) = (List.range k).map (rowD (k + 1) (wsM k g lo hi)) := by
    rw [ds_rng]
    apply List.map_congr_left
    intro i _
    unfold rowD rowO
    show PyData.list (OV.ds _) = _
    rw [ds_rng]
    rfl
  have d2 : OV.ds ((List.range k).map fun j => OV.fz (oi (ng (lo j)))) = (List.range k).map fun j => oi (ng (lo j)) := ds_rng k _
  have z0 : decide (1 ≤ SZ) = true := by decide
  have z1 : decide (((List.range k).map fun j => oi (ng (lo j))).length + 1 ≤ SZ) = true := decide_eq_true (by rw [len_rng]; unfold SZ; omega)
  have z2 : decide (((List.range k).map (rowD (k + 1) (wsM k g lo hi))).length + 1 ≤ SZ) = true := decide_eq_true (by rw [len_rng]; unfold SZ; omega)
  have es : itemsD (spL k lo hi) = some ((List.range k).map fun i => PyData.tuple [oi (lo i), oi (hi i)]) := rfl
  clear hS hk
  generalize ((List.range k).map fun i => OV.ol (rowO (k + 1) (wsM k g lo hi) i)) = T2 at *
  generalize (List.range k).map (rowD (k + 1) (wsM k g lo hi)) = T3 at *
  generalize ((List.range k).map fun j => OV.fz (oi (ng (lo j)))) = T4 at *
  generalize ((List.range k).map fun j => oi (ng (lo j))) = T5 at *
  generalize ((List.range k).map fun i => PyData.tuple [rwQ true k g i, PyData.tuple [oi (lo i), oi (hi i)]]) = T6 at *
  generalize ((List.range k).map fun i => PyData.tuple [oi (lo i), oi (hi i)]) = T7 at *
  generalize gapsT k g = G at *
  generalize spL k lo hi = S at *
  rw [ev_call (f := f13) rfl]
  unfold f13
  walk_at "ev"
/-! ### the least of some -/
theorem minI_le : ∀ (is : List Int) (i : Int), minI i is ≤ i ∧ ∀ x ∈ is, minI i is ≤ x
  | [], i => ⟨Int.le_refl _, fun _ h => absurd h List.not_mem_nil⟩
  | j :: is, i => by
    have h := minI_le is (if j < i then j else i)
    have e : minI i (j :: is) = minI (if j < i then j else i) is := rfl
    rw [e]
    refine ⟨Int.le_trans h.1 (by split <;> omega), fun x hx => ?_⟩
    rcases List.mem_cons.mp hx with rfl | hx
    · exact Int.le_trans h.1 (by split <;> omega)
    · exact h.2 x hx
theorem minI_mem : ∀ (is : List Int) (i : Int), minI i is ∈ i :: is
  | [], i => List.mem_cons_self
  | j :: is, i => by
    have h := minI_mem is (if j < i then j else i)
    have e : minI i (j :: is) = minI (if j < i then j else i) is := rfl
    rw [e]
    rcases List.mem_cons.mp h with q | q
    · rw [q]
      by_cases c : j < i
      · rw [if_pos c]; exact List.mem_cons_of_mem _ List.mem_cons_self
      · rw [if_neg c]; exact List.mem_cons_self
    · exact List.mem_cons_of_mem _ (List.mem_cons_of_mem _ q)
def mnL : List Int → Option Int
  | [] => none
  | i :: is => some (minI i is)
theorem ls_mn (l : List (Option Int)) : lsM l = mnL (l.filterMap id) := by
  have mem : ∀ b, b ∈ l.filterMap id ↔ some b ∈ l := fun b => by
    rw [List.mem_filterMap]
    exact ⟨fun ⟨a, h1, h2⟩ => by rw [← h2]; exact h1, fun h => ⟨some b, h, rfl⟩⟩
  cases e : l.filterMap id with
  | nil =>
    have z : Le none (lsM l) := lsM_ge fun x hx b eb => by
      rw [eb] at hx
      have := (mem b).mpr hx
      rw [e] at this
      exact absurd this List.not_mem_nil
    cases h : lsM l with
    | none => rfl
    | some b =>
      obtain ⟨a, ea, _⟩ := z b h
      cases ea
  | cons i is =>
    refine Le.antisymm ?_ (lsM_ge fun x hx b eb => ?_)
    · exact lsM_le ((mem _).mp (by rw [e]; exact minI_mem is i))
    · rw [eb] at hx
      have h := (mem b).mpr hx
      rw [e] at h
      refine ⟨minI i is, rfl, ?_⟩
      rcases List.mem_cons.mp h with q | q
      · rw [q]; exact (minI_le is i).1
      · exact (minI_le is i).2 b q
/-! ### the numbers not seen -/
theorem filt_lt {p q : Nat → Bool} (h : ∀ x, q x = true → p x = true) {v : Nat} (hp : p v = true) (hq : q v = false) : ∀ R : List Nat, (R.filter q).length ≤ (R.filter p).length ∧ (v ∈ R → (R.filter q).length < (R.filter p).length)
  | [] => ⟨Nat.le_refl _, fun h => absurd h List.not_mem_nil⟩
  | x :: R => by
    have ih := filt_lt h hp hq R
    rw [List.filter_cons, List.filter_cons]
    cases eq : q x with
    | true =>
      rw [h x eq, if_pos rfl, if_pos rfl, List.length_cons, List.length_cons]
      refine ⟨by omega, fun m => ?_⟩
      rcases List.mem_cons.mp m with z | z
      · rw [z, eq] at hq
        cases hq
      · have := ih.2 z
        omega
    | false =>
      cases ep : p x with
      | true =>
        rw [if_neg (by decide), if_pos rfl, List.length_cons]
        exact ⟨by omega, fun _ => by omega⟩
      | false =>
        rw [if_neg (by decide), if_neg (by decide)]
        refine ⟨ih.1, fun m => ?_⟩
        rcases List.mem_cons.mp m with z | z
        · rw [z, ep] at hp
          cases hp
        · exact ih.2 z
def cnt (N : Nat) (s : List Nat) : Nat := ((List.range N).filter fun v => decide (v ∉ s)).length
theorem cnt_step {N v : Nat} {s : List Nat} (hv : v < N) (hs : v ∉ s) : cnt N (s ++ [v]) < cnt N s := by
  refine (filt_lt (v := v) (fun x h => ?_) (decide_eq_true hs) (decide_eq_false fun h => h (List.mem_append_right _ List.mem_cons_self)) (List.range N)).2 (List.mem_range.mpr hv)
  have := of_decide_eq_true h
  exact decide_eq_true fun z => this (List.mem_append_left _ z)
theorem cnt_0 {N v : Nat} {s : List Nat} (h : cnt N s = 0) (hv : v < N) : v ∈ s := by
  by_cases hs : v ∈ s
  · exact hs
  · have := cnt_step hv hs
    omega
def nD (e : Nat) : D := .int (e : Nat)
theorem inD_n (e : Nat) (E : List Nat) : inD (nD e) (E.map nD) = decide (e ∈ E) := by
  unfold inD
  induction E with
  | nil => rfl
  | cons x E ih =>
    rw [List.map_cons, List.any_cons, ih]
    have : PyData.eqv (nD x) (nD e) = decide (x = e) := by
      show ((x : Int) == (e : Int)) = _
      by_cases h : x = e
      · simp [h]
      · have : ((x : Int) == (e : Int)) = false := by rw [beq_eq_false_iff_ne]; omega
        simp [h, this]
    rw [this]
    by_cases h : x = e
    · simp [h]
    · have h' : e ≠ x := fun z => h z.symm
      simp [h, h']
theorem q_ninE (e : Nat) (E : List Nat) (hE : E.length ≤ 100) : cmpD .nin (.int (e : Nat)) (.list (E.map nD)) = some (!decide (e ∈ E)) := by
  have o1 : okD 1 (.list (E.map nD)) = true := by
    show (decide ((E.map nD).length < SZ) && (E.map nD).all (okD 0)) = true
    rw [decide_eq_true (by rw [List.length_map]; unfold SZ; omega), Bool.true_and, List.all_eq_true]
    intro d hd
    obtain ⟨x, _, rfl⟩ := List.mem_map.mp hd
    rfl
  rw [q_cmp_nil, okD_shaped o1 (by decide), show SeqAt.shaped (.int (e : Nat)) = true from rfl]
  exact congrArg (fun b => some (!b)) (inD_n e E)
end PFL

namespace PFL
open PySem PF MG
def wyb : Ss := match f14.body with
  | .cons _ (.cons (.for_ _ _ b) _) => b
  | _ => .nil
/-- what the step to v gives -/
def cd (T : Mx) (N g f h : Nat) (s : List Nat) (v : Nat) : Option Int := if v = h then none else if v = g then T h v else if v ∈ s then none else adO (T h v) (way T N g f v (s ++ [v]))
def oL : Option Int → List OV
  | none => []
  | some x => [oI x]
theorem seq_t {a b : Nat} (h : a = b) : ((a : Int) == (b : Int)) = true := beq_iff_eq.mpr (by omega)
theorem seq_f {a b : Nat} (h : a ≠ b) : ((a : Int) == (b : Int)) = false := beq_eq_false_iff_ne.mpr (by omega)
local macro_rules | `(tactic| walk_at "ev") => `(tactic| simp only [xRun, startE, List.map_cons, List.map_nil, List.length_cons, List.length_nil, Nat.zero_add, Nat.reduceAdd, Nat.reduceSub, decide_true, List.cons_append, List.nil_append, List.append_nil, List.getElem?_cons_zero, List.getElem?_cons_succ, List.replicate, List.set_cons_zero, List.set_cons_succ, Int.cast_ofNat_Int, Int.reduceToNat, Int.reduceLE, Int.reduceLT, Int.reducePow, Int.reduceNeg, Int.reduceAdd, Int.reduceSub, Int.reduceMul, Int.reduceBEq, Int.reduceBNe, if_true, if_false, ↓reduceIte, Int.toNat_zero, List.not_mem_nil, not_false_eq_true, List.any_cons, List.any_nil, Bool.or_true, Bool.true_or, Bool.or_false, Bool.false_or, Bool.not_true, Bool.not_false, Bool.and_true, Bool.true_and, Bool.and_false, Bool.false_and, Nat.reduceLT, Nat.reduceLeDiff, bne_self_eq_false, Int.toNat_natCast, beq_self_eq_true, ds_fzs, Bool.false_eq_true, List.isEmpty_cons, List.isEmpty_nil, decide_false, wB0, wB1, wB2, wB3, wB4, wLcY, wLcX, wLc2, wZip, wZipM, wLz, wMm, wCmp, wSlc, wIdx, q_abs_int, q_add_list, q_add_tup, q_bT_tl, q_bT_tp, q_items_t, q_ix, q_mul_list, q_mul_tup, oi_n, oi_s, *])
theorem way_turn (W m : Nat) {TB : D} {T : Mx} {N h g f v : Nat} {s : List Nat} (hv : v < N) (ix1 : idxD TB (.int (h : Nat)) = some (rowD N T h)) (hs : s.length ≤ 99)
    (rc : v ∉ s → evF fns W m 14 [.fz TB, oI (v : Nat), oI (g : Nat), .fz (.list ((s ++ [v]).map nD))] = some (.fz (oi (way T N g f v (s ++ [v]))), [])) (F : List OV) (hF : F.length ≤ 1000) (x5 x6 x7 : Option OV) :
    ∃ y6 y7, turn ⟨evF fns W m, W⟩ (.nm 5) wyb (.int (v : Nat)) [some (.fz TB), some (oI (h : Nat)), some (oI (g : Nat)), some (.fz (.list (s.map nD))), some (.ol F), x5, x6, x7] = some (.nx [some (.fz TB), some (oI (h : Nat)), some (oI (g : Nat)), some (.fz (.list (s.map nD))), some (.ol (F ++ oL (cd T N g f h s v))), some (oI (v : Nat)), y6, y7]) := by
  have ix2 : idxD (rowD N T h) (.int (v : Nat)) = some (oi (T h v)) := at_rng hv _
  have ni := q_ninE v s (by omega)
  have hz : decide (F.length < SZ) = true := decide_eq_true (by unfold SZ; omega)
  have z1 : decide (1 ≤ SZ) = true := by decide
  have zl : decide ((s.map nD).length + 1 ≤ SZ) = true := decide_eq_true (by rw [List.length_map]; unfold SZ; omega)
  have es : (s ++ [v]).map nD = s.map nD ++ [.int (v : Nat)] := by
    rw [List.map_append]
    rfl
  rw [es] at rc
  by_cases c1 : v = h
  · have e : cd T N g f h s v = none := by
      unfold cd
      rw [if_pos c1]
    have q1 := seq_t c1
    refine ⟨some (.fz .none), some (.fz .none), ?_⟩
    rw [e]
    show _ = some (Fl.nx [_, _, _, _, some (.ol (F ++ [])), _, _, _])
    clear rc ni ix1 ix2 es e hv hs hF zl
    generalize rowD N T h = RW at *
    generalize s.map nD = S at *
    unfold wyb f14
    walk_at "ev"
  · have q1 := seq_f c1
    cases et : T h v with
    | none =>
      have e : cd T N g f h s v = none := by
        unfold cd
        rw [if_neg c1, et]
        by_cases c2 : v = g
        · rw [if_pos c2]
        · rw [if_neg c2]
          by_cases c3 : v ∈ s
          · rw [if_pos c3]
          · rw [if_neg c3]
            exact n_adO _
      rw [et] at ix2
      simp only [oi_n] at ix2
      refine ⟨some (.fz .none), some (.fz .none), ?_⟩
      rw [e]
      show _ = some (Fl.nx [_, _, _, _, some (.ol (F ++ [])), _, _, _])
      clear rc ni es e hv hs hF zl et
      generalize rowD N T h = RW at *
      generalize s.map nD = S at *
      unfold wyb f14
      walk_at "ev"
    | some x =>
      rw [et] at ix2
      simp only [oi_s] at ix2
      by_cases c2 : v = g
      · have e : cd T N g f h s v = some x := by
          unfold cd
          rw [if_neg c1, if_pos c2, et]
        subst c2
        have xz : x + 0 = x := Int.add_zero x
        refine ⟨some (oI x), some (oI 0), ?_⟩
        rw [e]
        show _ = some (Fl.nx [_, _, _, _, some (.ol (F ++ [oI x])), _, _, _])
        clear rc ni es e hv hs hF zl et
        generalize rowD N T h = RW at *
        generalize s.map nD = S at *
        unfold wyb f14
        walk_at "ev"
      · have q2 := seq_f c2
        by_cases c3 : v ∈ s
        · have e : cd T N g f h s v = none := by
            unfold cd
            rw [if_neg c1, if_neg c2, if_pos c3]
          rw [decide_eq_true c3] at ni
          refine ⟨some (oI x), some (.fz .none), ?_⟩
          rw [e]
          show _ = some (Fl.nx [_, _, _, _, some (.ol (F ++ [])), _, _, _])
          clear rc es e hv hs hF zl et
          generalize rowD N T h = RW at *
          generalize s.map nD = S at *
          unfold wyb f14
          walk_at "ev"
        · have e : cd T N g f h s v = adO (some x) (way T N g f v (s ++ [v])) := by
            unfold cd
            rw [if_neg c1, if_neg c2, if_neg c3, et]
          rw [decide_eq_false c3] at ni
          have rc := rc c3
          rw [e]
          cases ew : way T N g f v (s ++ [v]) with
          | none =>
            rw [ew] at rc
            simp only [oi_n] at rc
            refine ⟨some (oI x), some (.fz .none), ?_⟩
            show _ = some (Fl.nx [_, _, _, _, some (.ol (F ++ [])), _, _, _])
            clear es e hv hs hF et ew c3
            generalize rowD N T h = RW at *
            generalize s.map nD = S at *
            unfold wyb f14
            walk_at "ev"
          | some y =>
            rw [ew] at rc
            simp only [oi_s] at rc
            refine ⟨some (oI x), some (oI y), ?_⟩
            show _ = some (Fl.nx [_, _, _, _, some (.ol (F ++ [oI (x + y)])), _, _, _])
            clear es e hv hs hF et ew c3
            generalize rowD N T h = RW at *
            generalize s.map nD = S at *
            unfold wyb f14
            walk_at "ev"
theorem oL_len (c : Nat → Option Int) : ∀ i, ((List.range i).flatMap fun v => oL (c v)).length ≤ i
  | 0 => Nat.le_refl _
  | i + 1 => by
    have ih := oL_len c i
    rw [List.range_succ, List.flatMap_append, List.length_append]
    have e : ([i].flatMap fun v => oL (c v)) = oL (c i) := by simp
    rw [e]
    cases c i with
    | none => show _ + 0 ≤ _; omega
    | some x => show _ + 1 ≤ _; omega
theorem oL_ds (c : Nat → Option Int) : ∀ R : List Nat, OV.ds (R.flatMap fun v => oL (c v)) = ((R.map c).filterMap id).map .int
  | [] => rfl
  | v :: R => by
    rw [List.flatMap_cons, OV.ds_map, List.map_append, ← OV.ds_map, ← OV.ds_map, oL_ds c R, List.map_cons, List.filterMap_cons]
    cases c v <;> rfl
theorem way_end (W m : Nat) {TB S : D} {h g : Nat} {N : Nat} {FF : List OV} {L : List Int} {x5 x6 x7 : Option OV} (hN : N ≤ 1000) (hL : L.length < 1000000) (ln : bltD .len [TB] = some (oI (N : Nat)))
    (e : forX ⟨evF fns W m, W⟩ (.nm 5) wyb (rangeD 0 N) [some (.fz TB), some (oI (h : Nat)), some (oI (g : Nat)), some (.fz S), some (.ol []), none, none, none] = some (.nx [some (.fz TB), some (oI (h : Nat)), some (oI (g : Nat)), some (.fz S), some (.ol FF), x5, x6, x7])) (dd : OV.ds FF = L.map .int) :
    evF fns W (m + 1) 14 [.fz TB, oI (h : Nat), oI (g : Nat), .fz S] = some (.fz (oi (mnL L)), []) := by
  have rk : rngOk ((N : Nat) : Int) = true := rngN (by omega)
  have tk : ((N : Nat) : Int).toNat = N := rfl
  have z0 : decide (0 ≤ SZ) = true := by decide
  unfold wyb f14 at e
  cases L with
  | nil =>
    replace dd : OV.ds FF = [] := dd
    have ne := q_nen
    show _ = some (OV.fz .none, [])
    clear hN hL
    rw [ev_call (f := f14) rfl]
    unfold f14
    walk_at "ev"
  | cons i is =>
    replace dd : OV.ds FF = .int i :: is.map .int := dd
    have ne := q_nec i is (by rw [List.length_cons] at hL; omega)
    have mn := q_minl i is
    show _ = some (oI (minI i is), [])
    clear hN hL
    generalize is.map PyData.int = IS at *
    generalize minI i is = MI at *
    rw [ev_call (f := f14) rfl]
    unfold f14
    walk_at "ev"
theorem way_eq (W n : Nat) {T : Mx} {N : Nat} (hN : N ≤ 90) {g : Nat} : ∀ (f h : Nat) (s : List Nat), h < N → cnt N s ≤ f → s.length + f ≤ 99 → evF fns W (n + f + 1) 14 [.fz (tbD N T), oI (h : Nat), oI (g : Nat), .fz (.list (s.map nD))] = some (.fz (oi (way T N g (f + 1) h s)), []) := by
  have main : ∀ (f h : Nat) (s : List Nat), h < N → s.length ≤ 99 → (∀ v < N, v ∉ s → evF fns W (n + f) 14 [.fz (tbD N T), oI (v : Nat), oI (g : Nat), .fz (.list ((s ++ [v]).map nD))] = some (.fz (oi (way T N g f v (s ++ [v]))), [])) → evF fns W (n + f + 1) 14 [.fz (tbD N T), oI (h : Nat), oI (g : Nat), .fz (.list (s.map nD))] = some (.fz (oi (way T N g (f + 1) h s)), []) := by
    intro f h s hh hs rc
    have ix1 : idxD (tbD N T) (.int (h : Nat)) = some (rowD N T h) := at_rng hh _
    have ln : bltD .len [tbD N T] = some (oI (N : Nat)) := by
      show some (OV.fz (.int (((List.range N).map (rowD N T)).length : Int))) = _
      rw [len_rng]
    generalize tbD N T = TB at *
    obtain ⟨ρ', ⟨x5, x6, x7, rfl⟩, e⟩ := forX_range (C := ⟨evF fns W (n + f), W⟩) (t := .nm 5) (b := wyb) (n := N) (fun i ρ => ∃ x5 x6 x7, ρ = [some (.fz TB), some (oI (h : Nat)), some (oI (g : Nat)), some (.fz (.list (s.map nD))), some (.ol ((List.range i).flatMap fun v => oL (cd T N g f h s v))), x5, x6, x7]) (by
      rintro v hv ρ ⟨x5, x6, x7, rfl⟩
      obtain ⟨y6, y7, e⟩ := way_turn W (n + f) (f := f) (g := g) hv ix1 hs (rc v hv) ((List.range v).flatMap fun v => oL (cd T N g f h s v)) (by have := oL_len (fun v => cd T N g f h s v) v; omega) x5 x6 x7
      refine ⟨_, ⟨some (oI (v : Nat)), y6, y7, ?_⟩, e⟩
      rw [List.range_succ, List.flatMap_append]
      have e2 : ([v].flatMap fun v => oL (cd T N g f h s v)) = oL (cd T N g f h s v) := by simp
      rw [e2]) (ρ := [some (.fz TB), some (oI (h : Nat)), some (oI (g : Nat)), some (.fz (.list (s.map nD))), some (.ol []), none, none, none]) ⟨none, none, none, rfl⟩
    have hl : (((List.range N).map fun v => cd T N g f h s v).filterMap id).length ≤ N := by
      refine Nat.le_trans (List.length_filterMap_le _ _) ?_
      rw [List.length_map, List.length_range]
      exact Nat.le_refl _
    have := way_end W (n + f) (TB := TB) (S := .list (s.map nD)) (h := h) (g := g) (N := N) (L := ((List.range N).map fun v => cd T N g f h s v).filterMap id) (by omega) (by omega) ln e (oL_ds (fun v => cd T N g f h s v) (List.range N))
    rw [← ls_mn] at this
    exact this
  intro f
  induction f with
  | zero => exact fun h s hh hc hl => main 0 h s hh (by omega) fun v hv hs => absurd (cnt_0 (by omega) hv) hs
  | succ f ih =>
    intro h s hh hc hl
    refine main (f + 1) h s hh (by omega) fun v hv hs => ?_
    have := cnt_step hv hs
    exact ih v (s ++ [v]) hv (by omega) (by rw [List.length_append, List.length_singleton]; omega)
theorem cnt_1 {N h : Nat} (hh : h < N) : cnt N [h] ≤ N - 1 := by
  have := cnt_step (N := N) (v := h) (s := []) hh List.not_mem_nil
  have e : cnt N [] ≤ N := by
    unfold cnt
    refine Nat.le_trans (List.length_filter_le _ _) ?_
    rw [List.length_range]
    exact Nat.le_refl _
  rw [List.nil_append] at this
  omega
/-- a way from h that has seen h alone -/
theorem way_one (W n : Nat) {T : Mx} {N : Nat} (h0 : 0 < N) (hN : N ≤ 90) {g h : Nat} (hh : h < N) : evF fns W (n + N) 14 [.fz (tbD N T), oI (h : Nat), oI (g : Nat), .fz (.list [.int (h : Nat)])] = some (.fz (oi (way T N g N h [h])), []) := by
  obtain ⟨M, rfl⟩ : ∃ M, N = M + 1 := ⟨N - 1, by omega⟩
  have := way_eq W n (T := T) hN (g := g) M h [h] hh (by have := cnt_1 hh; omega) (by simp; omega)
  exact this
end PFL

namespace PFL
open PySem PF MG
def rneg : Option Int → Bool
  | none => false
  | some x => decide (x < 0)
/-- the least sums, 0 from a variable to itself -/
def Qw (T : Mx) (N : Nat) : Mx := fun i j => if i = j then some 0 else way T N j N i [i]
theorem way5 (W n : Nat) {T : Mx} {N : Nat} (h0 : 0 < N) (h5 : N ≤ 5) (g : Nat) {h : Nat} (hh : h < N) : evF fns W (n + 5) 14 [.fz (tbD N T), oI (h : Nat), oI (g : Nat), .fz (.list [.int (h : Nat)])] = some (.fz (oi (way T N g N h [h])), []) := by
  have := way_one W (n + (5 - N)) h0 (by omega) (g := g) (T := T) hh
  rwa [show n + (5 - N) + N = n + 5 by omega] at this
local macro_rules | `(tactic| walk_at "ev") => `(tactic| simp only [xRun, startE, List.map_cons, List.map_nil, List.length_cons, List.length_nil, Nat.zero_add, Nat.reduceAdd, Nat.reduceSub, decide_true, List.cons_append, List.nil_append, List.append_nil, List.getElem?_cons_zero, List.getElem?_cons_succ, List.replicate, List.set_cons_zero, List.set_cons_succ, Int.cast_ofNat_Int, Int.reduceToNat, Int.reduceLE, Int.reduceLT, Int.reducePow, Int.reduceNeg, Int.reduceAdd, Int.reduceSub, Int.reduceMul, Int.reduceBEq, Int.reduceBNe, if_true, if_false, ↓reduceIte, Int.toNat_zero, List.not_mem_nil, not_false_eq_true, List.any_cons, List.any_nil, Bool.or_true, Bool.true_or, Bool.or_false, Bool.false_or, Bool.not_true, Bool.not_false, Bool.and_true, Bool.true_and, Bool.and_false, Bool.false_and, Nat.reduceLT, Nat.reduceLeDiff, bne_self_eq_false, Int.toNat_natCast, beq_self_eq_true, ds_fzs, Bool.false_eq_true, List.isEmpty_cons, List.isEmpty_nil, decide_false, wB0, wB1, wB2, wB3, wB4, wLcX, wLc2, wZip, wZipM, wLz, wMm, wCmp, wSlc, wIdx, q_abs_int, q_add_list, q_add_tup, q_bT_tl, q_bT_tp, q_items_t, q_ix, q_mul_list, q_mul_tup, oi_n, oi_s, x1_non, *])
theorem rings_lc (W n : Nat) {T : Mx} {k : Nat} (hk : k ≤ 4) (x0 x1 x2 x5 x6 x7 x8 x9 x10 : Option OV) : lcY ⟨evF fns W (n + 5), W⟩ [3] (.nm 3) (.c (.bool true)) (.call 14 (.ev (.v 4) (.ev (.v 3) (.ev (.v 3) (.ev (.lst (.cons (.v 3) .nil)) .nil))))) (rangeD 0 (k + 1)) [x0, x1, x2, none, some (.fz (tbD (k + 1) T)), x5, x6, x7, x8, x9, x10] =
    some (.ol ((List.range (k + 1)).map fun i => OV.fz (oi (way T (k + 1) i (k + 1) i [i]))), [x0, x1, x2, none, some (.fz (tbD (k + 1) T)), x5, x6, x7, x8, x9, x10]) := by
  rw [rg_nat]
  refine lcY_ix (by unfold SZ; omega) _ _ fun i hi => ?_
  have e := way5 W n (T := T) (Nat.succ_pos k) (by omega) i hi
  have z1 : decide (1 ≤ SZ) = true := by decide
  refine ⟨[x0, x1, x2, some (oI (i : Nat)), some (.fz (tbD (k + 1) T)), x5, x6, x7, x8, x9, x10], ?_, rfl⟩
  generalize oi (way T (k + 1) i (k + 1) i [i]) = O at *
  generalize tbD (k + 1) T = TB at *
  clear hi hk
  walk_at "ev"
theorem any_lc (W n : Nat) {k : Nat} (hk : k ≤ 4) (R : Nat → Option Int) (x0 x1 x2 x3 x4 x5 x6 x7 x8 x10 : Option OV) : lcY ⟨evF fns W n, W⟩ [9] (.nm 9) (.c (.bool true)) (.an (.isn true (.v 9)) (.cmp .lt (.v 9) (.c (.int 0)))) ((List.range (k + 1)).map fun i => oi (R i)) [x0, x1, x2, x3, x4, x5, x6, x7, x8, none, x10] =
    some (.ol ((List.range (k + 1)).map fun i => oB (rneg (R i))), [x0, x1, x2, x3, x4, x5, x6, x7, x8, none, x10]) := by
  refine lcY_ix (by unfold SZ; omega) _ _ fun i hi => ?_
  refine ⟨[x0, x1, x2, x3, x4, x5, x6, x7, x8, some (.fz (oi (R i))), x10], ?_, rfl⟩
  cases R i with
  | none =>
    show _ = some ([oB false], _)
    clear hi hk
    walk_at "ev"
  | some x =>
    show _ = some ([oB (decide (x < 0))], _)
    clear hi hk
    walk_at "ev"
theorem qrow_lc (W n : Nat) {T : Mx} {k i : Nat} (hk : k ≤ 4) (hi : i < k) (x0 x1 x2 x6 x7 x8 x9 : Option OV) : lcY ⟨evF fns W (n + 5), W⟩ [10] (.nm 10) (.c (.bool true)) (.ite (.cmp .eq (.v 3) (.v 10)) (.c (.int 0)) (.call 14 (.ev (.v 4) (.ev (.v 3) (.ev (.v 10) (.ev (.lst (.cons (.v 3) .nil)) .nil)))))) (rangeD 0 k) [x0, x1, x2, some (oI (i : Nat)), some (.fz (tbD (k + 1) T)), some (oI (k : Nat)), x6, x7, x8, x9, none] =
    some (.ol ((List.range k).map fun j => OV.fz (oi (Qw T (k + 1) i j))), [x0, x1, x2, some (oI (i : Nat)), some (.fz (tbD (k + 1) T)), some (oI (k : Nat)), x6, x7, x8, x9, none]) := by
  rw [rg_nat]
  refine lcY_ix (by unfold SZ; omega) _ _ fun j hj => ?_
  have e := way5 W n (T := T) (Nat.succ_pos k) (by omega) j (show i < k + 1 by omega)
  have z1 : decide (1 ≤ SZ) = true := by decide
  refine ⟨[x0, x1, x2, some (oI (i : Nat)), some (.fz (tbD (k + 1) T)), some (oI (k : Nat)), x6, x7, x8, x9, some (oI (j : Nat))], ?_, rfl⟩
  by_cases h : i = j
  · subst h
    have eq : Qw T (k + 1) i i = some 0 := if_pos rfl
    rw [eq]
    show _ = some ([oI 0], _)
    clear hi hj hk e eq
    generalize tbD (k + 1) T = TB at *
    walk_at "ev"
  · have eq : Qw T (k + 1) i j = way T (k + 1) j (k + 1) i [i] := if_neg h
    rw [eq]
    have q := seq_f h
    generalize oi (way T (k + 1) j (k + 1) i [i]) = O at *
    generalize tbD (k + 1) T = TB at *
    clear hi hj hk eq h
    walk_at "ev"
def clb : Ss := match f15.body with
  | .cons _ (.cons _ (.cons _ (.cons _ (.cons (.for_ _ _ b) _)))) => b
  | _ => .nil
theorem q_turn (W n : Nat) {T : Mx} {k i : Nat} (hk : k ≤ 4) (hi : i < k) (x0 x1 x2 x3 x8 x9 : Option OV) (A B : List OV) (hA : A.length ≤ 1000) (hB : B.length ≤ 1000) : ∃ y8, turn ⟨evF fns W (n + 5), W⟩ (.nm 3) clb (.int (i : Nat)) [x0, x1, x2, x3, some (.fz (tbD (k + 1) T)), some (oI (k : Nat)), some (.ol A), some (.ol B), x8, x9, none] =
    some (.nx [x0, x1, x2, some (oI (i : Nat)), some (.fz (tbD (k + 1) T)), some (oI (k : Nat)), some (.ol (A ++ [.fz (rwQ true k (Qw T (k + 1)) i)])), some (.ol (B ++ [.fz (spanT k (Qw T (k + 1)) i)])), y8, x9, none]) := by
  have e1 := fun x6 x7 => qrow_lc W n (T := T) hk hi x0 x1 x2 x6 x7 x8 x9
  have e2 := way5 W n (T := T) (Nat.succ_pos k) (by omega) i (show k < k + 1 by omega)
  have e3 := way5 W n (T := T) (Nat.succ_pos k) (by omega) k (show i < k + 1 by omega)
  have d1 : OV.ds ((List.range k).map fun j => OV.fz (oi (Qw T (k + 1) i j))) = (List.range k).map fun j => oi (Qw T (k + 1) i j) := ds_rng k _
  have r1 : rngOk ((k : Nat) : Int) = true := rngN (by omega)
  have t1 : ((k : Nat) : Int).toNat = k := rfl
  have z1 : decide (1 ≤ SZ) = true := by decide
  have z2 : decide (2 ≤ SZ) = true := by decide
  have hA' : decide (A.length < SZ) = true := decide_eq_true (by unfold SZ; omega)
  have hB' : decide (B.length < SZ) = true := decide_eq_true (by unfold SZ; omega)
  have es : spanT k (Qw T (k + 1)) i = .tuple [oi (ng (way T (k + 1) i (k + 1) k [k])), oi (way T (k + 1) k (k + 1) i [i])] := by
    unfold spanT Qw
    rw [if_neg (show k ≠ i by omega), if_neg (show i ≠ k by omega)]
  have er : rwQ true k (Qw T (k + 1)) i = .tuple ((List.range k).map fun j => oi (Qw T (k + 1) i j)) := rfl
  rw [es, er]
  clear es er hA hB hi hk
  generalize ((List.range k).map fun j => OV.fz (oi (Qw T (k + 1) i j))) = L1 at *
  generalize ((List.range k).map fun j => oi (Qw T (k + 1) i j)) = L2 at *
  generalize oi (way T (k + 1) k (k + 1) i [i]) = O3 at *
  cases h : way T (k + 1) i (k + 1) k [k] with
  | none =>
    rw [h] at e2
    simp only [oi_n] at e2
    refine ⟨some (.fz .none), ?_⟩
    show _ = some (Fl.nx [_, _, _, _, _, _, _, some (.ol (B ++ [.fz (.tuple [.none, O3])])), _, _, _])
    clear h
    generalize tbD (k + 1) T = TB at *
    unfold clb f15
    walk_at "ev"
  | some x =>
    rw [h] at e2
    simp only [oi_s] at e2
    have zz : (0 : Int) - x = -x := Int.zero_sub x
    refine ⟨some (oI x), ?_⟩
    show _ = some (Fl.nx [_, _, _, _, _, _, _, some (.ol (B ++ [.fz (.tuple [.int (-x), O3])])), _, _, _])
    clear h
    generalize tbD (k + 1) T = TB at *
    unfold clb f15
    walk_at "ev"
theorem q_loop (W n : Nat) {T : Mx} {k : Nat} (hk : k ≤ 4) (x0 x1 x2 x3 x8 x9 : Option OV) : ∃ y3 y8, forX ⟨evF fns W (n + 5), W⟩ (.nm 3) clb (rangeD 0 k) [x0, x1, x2, x3, some (.fz (tbD (k + 1) T)), some (oI (k : Nat)), some (.ol []), some (.ol []), x8, x9, none] =
    some (.nx [x0, x1, x2, y3, some (.fz (tbD (k + 1) T)), some (oI (k : Nat)), some (.ol ((List.range k).map fun i => OV.fz (rwQ true k (Qw T (k + 1)) i))), some (.ol ((List.range k).map fun i => OV.fz (spanT k (Qw T (k + 1)) i))), y8, x9, none]) := by
  obtain ⟨ρ', ⟨y3, y8, rfl⟩, e⟩ := forX_range (C := ⟨evF fns W (n + 5), W⟩) (t := .nm 3) (b := clb) (n := k) (fun i ρ => ∃ y3 y8, ρ = [x0, x1, x2, y3, some (.fz (tbD (k + 1) T)), some (oI (k : Nat)), some (.ol ((List.range i).map fun i => OV.fz (rwQ true k (Qw T (k + 1)) i))), some (.ol ((List.range i).map fun i => OV.fz (spanT k (Qw T (k + 1)) i))), y8, x9, none]) (by
    rintro i hi ρ ⟨y3, y8, rfl⟩
    obtain ⟨z8, e⟩ := q_turn W n (T := T) hk hi x0 x1 x2 y3 y8 x9 ((List.range i).map fun i => OV.fz (rwQ true k (Qw T (k + 1)) i)) ((List.range i).map fun i => OV.fz (spanT k (Qw T (k + 1)) i)) (by rw [len_rng]; omega) (by rw [len_rng]; omega)
    refine ⟨_, ⟨some (oI (i : Nat)), z8, ?_⟩, e⟩
    rw [List.range_succ, List.map_append, List.map_append]
    rfl) (ρ := [x0, x1, x2, x3, some (.fz (tbD (k + 1) T)), some (oI (k : Nat)), some (.ol []), some (.ol []), x8, x9, none]) ⟨x3, x8, rfl⟩
  exact ⟨y3, y8, e⟩
theorem lawClosed_eq (W n : Nat) {k : Nat} (hk : k ≤ 4) (g : Mx) (lo hi : Nat → Option Int) :
    evF fns W (n + 6) 15 [.fz (gapsT k g), .fz (spL k lo hi)] = some (if (List.range (k + 1)).any (fun i => rneg (way (wsM k g lo hi) (k + 1) i (k + 1) i [i])) = true then .fz .none else closedO k (Qw (wsM k g lo hi) (k + 1)), []) := by
  obtain ⟨x, hx, e0⟩ := zeroed_eq W (n + 4) (k := k) (by omega) g lo hi
  generalize wsM k g lo hi = T at *
  have e1 := fun x0 x1 x2 x5 x6 x7 x8 x9 x10 => rings_lc W n (T := T) hk x0 x1 x2 x5 x6 x7 x8 x9 x10
  have e2 := fun x0 x1 x2 x3 x4 x5 x6 x7 x8 x10 => any_lc W (n + 5) hk (fun i => way T (k + 1) i (k + 1) i [i]) x0 x1 x2 x3 x4 x5 x6 x7 x8 x10
  have d1 : OV.ds ((List.range (k + 1)).map fun i => OV.fz (oi (way T (k + 1) i (k + 1) i [i]))) = (List.range (k + 1)).map fun i => oi (way T (k + 1) i (k + 1) i [i]) := ds_rng (k + 1) _
  have d2 := any_map (fun i => rneg (way T (k + 1) i (k + 1) i [i])) (List.range (k + 1))
  have ln : bltD .len [spL k lo hi] = some (oI (k : Nat)) := by
    show some (OV.fz (.int (((List.range k).map fun i => PyData.tuple [oi (lo i), oi (hi i)]).length : Int))) = _
    rw [len_rng]
  have r1 : rngOk ((k : Int) + 1) = true := rngN (n := k + 1) (by omega)
  have r2 : ((k : Int) + 1).toNat = k + 1 := by omega
  have r3 : rngOk ((k : Nat) : Int) = true := rngN (by omega)
  have r4 : ((k : Nat) : Int).toNat = k := rfl
  have z0 : decide (0 ≤ SZ) = true := by decide
  have z2 : decide (2 ≤ SZ) = true := by decide
  obtain ⟨y3, y8, e3⟩ := q_loop W n (T := T) hk (some (.fz (gapsT k g))) (some (.fz (spL k lo hi))) (some (.fz (.list ((List.range (k + 1)).map fun i => oi (way T (k + 1) i (k + 1) i [i]))))) none none none
  have d3 : OV.ds ((List.range k).map fun i => OV.fz (rwQ true k (Qw T (k + 1)) i)) = (List.range k).map (rwQ true k (Qw T (k + 1))) := ds_rng k _
  have e4 : closedO k (Qw T (k + 1)) = .ot [.fz (.tuple ((List.range k).map (rwQ true k (Qw T (k + 1))))), .ol ((List.range k).map fun i => OV.fz (spanT k (Qw T (k + 1)) i))] := rfl
  rw [e4]
  clear e4
  generalize ((List.range k).map fun i => OV.fz (rwQ true k (Qw T (k + 1)) i)) = L1 at *
  generalize (List.range k).map (rwQ true k (Qw T (k + 1))) = L2 at *
  generalize ((List.range k).map fun i => OV.fz (spanT k (Qw T (k + 1)) i)) = L3 at *
  generalize ((List.range (k + 1)).map fun i => OV.fz (oi (way T (k + 1) i (k + 1) i [i]))) = L4 at *
  generalize ((List.range (k + 1)).map fun i => oi (way T (k + 1) i (k + 1) i [i])) = L5 at *
  generalize ((List.range (k + 1)).map fun i => oB (rneg (way T (k + 1) i (k + 1) i [i]))) = L6 at *
  generalize gapsT k g = G at *
  generalize spL k lo hi = S at *
  generalize tbD (k + 1) T = TB at *
  clear hk
  unfold clb f15 at e3
  cases h : (List.range (k + 1)).any (fun i => rneg (way T (k + 1) i (k + 1) i [i])) with
  | true =>
    rw [h] at d2
    rw [if_pos rfl]
    clear h e3 d3
    rw [ev_call (f := f15) rfl]
    unfold f15
    walk_at "ev"
  | false =>
    rw [h] at d2
    rw [if_neg (by decide)]
    clear h
    rw [ev_call (f := f15) rfl]
    unfold f15
    walk_at "ev"
end PFL

namespace PFL
open PySem PF MG
/-! ### shapes -/
theorem OkO.up {A B : Int} {o : Option Int} (h : OkO A o) (l : A ≤ B) : OkO B o := fun c e => by
  have := h c e
  exact ⟨by omega, by omega⟩
theorem sm_oi {n : Nat} {o : Option Int} (h : OkO 100000000000000 o) : smD n (oi o) = true := by
  cases o with
  | none => cases n <;> rfl
  | some x =>
    have := h x rfl
    have e : ∀ n, smD n (.int x) = decide (x.natAbs < 1000000000000000000000000) := fun n => by cases n <;> rfl
    show smD n (.int x) = true
    rw [e, decide_eq_true]
    omega
theorem sm_sq {n k : Nat} (b : Bool) (hk : k ≤ 10) {f : Nat → D} (h : ∀ i, smD n (f i) = true) : smD (n + 1) (sq b ((List.range k).map f)) = true := by
  have e : (decide (((List.range k).map f).length ≤ 10) && ((List.range k).map f).all (smD n)) = true := by
    rw [decide_eq_true (by rw [List.length_map, List.length_range]; exact hk), Bool.true_and, List.all_eq_true]
    intro d hd
    obtain ⟨i, _, rfl⟩ := List.mem_map.mp hd
    exact h i
  cases b <;> exact e
theorem ok_oi (n : Nat) (o : Option Int) : okD n (oi o) = true := by cases n <;> cases o <;> rfl
theorem ok_sq (b : Bool) {n k : Nat} (hk : k ≤ 100) {f : Nat → D} (h : ∀ i, okD n (f i) = true) : okD (n + 1) (sq b ((List.range k).map f)) = true := by
  have e : (decide (((List.range k).map f).length < SZ) && ((List.range k).map f).all (okD n)) = true := by
    rw [decide_eq_true (by rw [List.length_map, List.length_range]; unfold SZ; omega), Bool.true_and, List.all_eq_true]
    intro d hd
    obtain ⟨i, _, rfl⟩ := List.mem_map.mp hd
    exact h i
  cases b <;> exact e
theorem ok_two (b : Bool) {n : Nat} {x y : D} (hx : okD n x = true) (hy : okD n y = true) : okD (n + 1) (sq b [x, y]) = true := by
  have e : (decide ([x, y].length < SZ) && [x, y].all (okD n)) = true := by
    rw [decide_eq_true (by show 2 < SZ; decide)]
    simp only [List.all_cons, List.all_nil, hx, hy, Bool.and_self]
  cases b <;> exact e
theorem sm_two (b : Bool) {n : Nat} {x y : D} (hx : smD n x = true) (hy : smD n y = true) : smD (n + 1) (sq b [x, y]) = true := by
  have e : (decide ([x, y].length ≤ 10) && [x, y].all (smD n)) = true := by
    rw [decide_eq_true (by show 2 ≤ 10; decide)]
    simp only [List.all_cons, List.all_nil, hx, hy, Bool.and_self]
  cases b <;> exact e
def spSt (k : Nat) (lo hi : Nat → Option Int) : List D := (List.range k).map fun i => PyData.tuple [oi (lo i), oi (hi i)]
def spSl (k : Nat) (lo hi : Nat → Option Int) : List D := (List.range k).map fun i => PyData.list [oi (lo i), oi (hi i)]
theorem ok_G {n k : Nat} (hk : k ≤ 100) (A : Mx) : okD (n + 2) (gapsT k A) = true := ok_sq true hk fun i => ok_sq true hk fun j => ok_oi n _
theorem ok_GL {n k : Nat} (hk : k ≤ 100) (A : Mx) : okD (n + 2) (rowsD true (fun _ => true) k A) = true := ok_sq false hk fun i => ok_sq false hk fun j => ok_oi n _
theorem ok_S {n k : Nat} (hk : k ≤ 100) (lo hi : Nat → Option Int) : okD (n + 2) (.list (spSt k lo hi)) = true := ok_sq false hk fun i => ok_two true (ok_oi n _) (ok_oi n _)
theorem ok_SL {n k : Nat} (hk : k ≤ 100) (lo hi : Nat → Option Int) : okD (n + 2) (.list (spSl k lo hi)) = true := ok_sq false hk fun i => ok_two false (ok_oi n _) (ok_oi n _)
theorem ok_C {n k : Nat} (hk : k ≤ 100) (M : Mx) : okD (n + 3) (.tuple [gapsT k M, .list ((List.range k).map (spanT k M))]) = true := ok_two true (ok_G hk M) (ok_sq false hk fun i => ok_two true (ok_oi n _) (ok_oi n _))
theorem same_eq (W n : Nat) {d : D} (h : okD 5 d = true) : evF fns W (n + 6) 8 [.fz d, .fz d] = some (oB true, []) := same_refl (F := fns) (t := 8) rfl W 5 d (n + 5) h (by omega)
/-! ### lists in place of tuples -/
theorem la_oi (n : Nat) (o : Option Int) : laD n (oi o) = oi o := by cases n <;> cases o <;> rfl
theorem la_sq (n k : Nat) (b : Bool) (f g : Nat → D) (h : ∀ i, laD n (f i) = g i) : laD (n + 1) (sq b ((List.range k).map f)) = .list ((List.range k).map g) := by
  have e : ((List.range k).map f).map (laD n) = (List.range k).map g := by
    rw [List.map_map]
    exact List.map_congr_left fun i _ => h i
  cases b
  · show PyData.list _ = _
    rw [e]
  · show PyData.list _ = _
    rw [e]
theorem la_G (n k : Nat) (A : Mx) : laD (n + 2) (gapsT k A) = rowsD true (fun _ => true) k A := la_sq (n + 1) k true _ _ fun i => la_sq n k true _ _ fun j => la_oi n _
theorem la_S (n k : Nat) (lo hi : Nat → Option Int) : laD (n + 2) (.list (spSt k lo hi)) = .list (spSl k lo hi) := la_sq (n + 1) k false _ _ fun i => by
  show PyData.list [laD n (oi (lo i)), laD n (oi (hi i))] = _
  rw [la_oi, la_oi]
theorem loose_g (W n : Nat) {k : Nat} (hk : k ≤ 100) (A : Mx) : ∃ x, x.d = rowsD true (fun _ => true) k A ∧ evF fns W (n + 4) 12 [.fz (gapsT k A)] = some (x, []) := by
  refine ⟨laO 2 (gapsT k A), ?_, lsa_eq (F := fns) (t := 12) rfl W 2 (gapsT k A) (n + 3) (ok_G hk A) (by omega)⟩
  rw [laO_d, la_G]
theorem loose_s (W n : Nat) {k : Nat} (hk : k ≤ 100) (lo hi : Nat → Option Int) : ∃ x, x.d = .list (spSl k lo hi) ∧ evF fns W (n + 4) 12 [.fz (.list (spSt k lo hi))] = some (x, []) := by
  refine ⟨laO 2 (.list (spSt k lo hi)), ?_, lsa_eq (F := fns) (t := 12) rfl W 2 (.list (spSt k lo hi)) (n + 3) (ok_S hk lo hi) (by omega)⟩
  rw [laO_d, la_S]
theorem loose_b (W n : Nat) {k : Nat} (hk : k ≤ 100) (A : Mx) (lo hi : Nat → Option Int) : ∃ x, x.d = .list [rowsD true (fun _ => true) k A, .list (spSl k lo hi)] ∧ evF fns W (n + 4) 12 [.fz (.list [gapsT k A, .list (spSt k lo hi)])] = some (x, []) := by
  refine ⟨laO 3 (.list [gapsT k A, .list (spSt k lo hi)]), ?_, lsa_eq (F := fns) (t := 12) rfl W 3 (.list [gapsT k A, .list (spSt k lo hi)]) (n + 3) (ok_two false (ok_G hk A) (ok_S hk lo hi)) (by omega)⟩
  rw [laO_d]
  show PyData.list [laD 2 (gapsT k A), laD 2 (.list (spSt k lo hi))] = _
  rw [la_G, la_S]
/-! ### what both tell -/
theorem closed_congr {k : Nat} {M N : Mx} (h : ∀ i < k + 1, ∀ j < k + 1, M i j = N i j) : closedO k M = closedO k N := by
  have e1 : gapsT k M = gapsT k N := by
    unfold gapsT
    congr 1
    apply List.map_congr_left
    intro i hi
    congr 1
    apply List.map_congr_left
    intro j hj
    rw [h i (by have := List.mem_range.mp hi; omega) j (by have := List.mem_range.mp hj; omega)]
  have e2 : ((List.range k).map fun i => OV.fz (spanT k M i)) = (List.range k).map fun i => OV.fz (spanT k N i) := by
    apply List.map_congr_left
    intro i hi
    have := List.mem_range.mp hi
    unfold spanT
    rw [h k (by omega) i (by omega), h i (by omega) k (by omega)]
  unfold closedO
  rw [e1, e2]
theorem res_eq {k : Nat} (hk : k ≤ 4) (g : Mx) (lo hi : Nat → Option Int) (hz : ∀ i < k, g i i = some 0) : ∃ R : OV, (R = .fz .none ∨ ∃ M : Mx, R = closedO k M) ∧ (∀ (W n : Nat) (b d : Bool) (bs ds : Nat → Bool), evF fns W (n + 3) 3 [.fz (rowsD b bs k g), .fz (spnD d ds k lo hi)] = some (R, [])) ∧ ∀ W n, evF fns W (n + 6) 15 [.fz (gapsT k g), .fz (.list (spSt k lo hi))] = some (R, []) := by
  have h0 : ∀ i < k + 1, wsM k g lo hi i i = some 0 := fun i hi' => by
    unfold wsM
    by_cases q : i < k
    · rw [if_pos q, if_pos q]; exact hz i q
    · rw [if_neg q, if_neg q]
  have eL := fun W n => lawClosed_eq W n hk g lo hi
  have eG := fun W n b d bs ds => closed_spec (F := fns) (g := 3) (w := 1) (c := 2) (l := 0) rfl rfl rfl rfl W n (k := k) (by omega) b d bs ds g lo hi (fun i => (clo (k + 1) (wsM k g lo hi) (k + 1) i i).getD 0) (MG.diag_some h0)
  rcases nn_or (k + 1) (wsM k g lo hi) h0 with hd | hd
  · refine ⟨closedO k (clo (k + 1) (wsM k g lo hi) (k + 1)), .inr ⟨_, rfl⟩, fun W n b d bs ds => ?_, fun W n => ?_⟩
    · rw [eG, if_neg]
      intro q
      obtain ⟨i, hi', q⟩ := List.any_eq_true.mp q
      have hi' := List.mem_range.mp hi'
      have q := of_decide_eq_true q
      have := hd i hi' _ (MG.diag_some h0 i hi')
      omega
    · refine (eL W n).trans ?_
      rw [if_neg]
      · rw [closed_congr (N := clo (k + 1) (wsM k g lo hi) (k + 1))]
        intro i hi' j hj
        unfold Qw
        by_cases q : i = j
        · rw [if_pos q, ← q, diag0 hd h0 hi']
        · rw [if_neg q, way_clo h0 hd hi' hj q]
      · intro q
        obtain ⟨i, hi', q⟩ := List.any_eq_true.mp q
        have hi' := List.mem_range.mp hi'
        have := way_nn h0 hd hi'
        cases e : way (wsM k g lo hi) (k + 1) i (k + 1) i [i] with
        | none => rw [e] at q; cases q
        | some x =>
          rw [e] at q
          have q : decide (x < 0) = true := q
          have := this x e
          have := of_decide_eq_true q
          omega
  · refine ⟨.fz .none, .inl rfl, fun W n b d bs ds => ?_, fun W n => ?_⟩
    · rw [eG, if_pos]
      obtain ⟨i, hi', c, e, hc⟩ := hd
      refine List.any_eq_true.mpr ⟨i, List.mem_range.mpr hi', decide_eq_true ?_⟩
      rw [e]
      exact hc
    · refine (eL W n).trans ?_
      rw [if_pos]
      obtain ⟨i, hi', c, e, hc⟩ := way_neg h0 hd
      refine List.any_eq_true.mpr ⟨i, List.mem_range.mpr hi', ?_⟩
      rw [e]
      exact decide_eq_true hc
theorem none_eq (W n : Nat) : evF fns W (n + 3) 3 [.fz (.tuple []), .fz (.list [])] = some (.ot [.fz (.tuple []), .ol []], []) := by
  have := closed_spec (F := fns) (g := 3) (w := 1) (c := 2) (l := 0) rfl rfl rfl rfl W n (k := 0) (by omega) false true (fun _ => false) (fun _ => false) (fun _ _ => none) (fun _ => none) (fun _ => none) (fun _ => 0) (fun i hi => by
    have : i = 0 := by omega
    subst this
    rfl)
  exact this
end PFL

namespace PFL
open PySem PF MG
def rtb : Ss := match f16.body with
  | .cons (.for_ _ _ b) _ => b
  | _ => .nil
local macro_rules | `(tactic| walk_at "ev") => `(tactic| simp only [xRun, startE, List.map_cons, List.map_nil, List.length_cons, List.length_nil, Nat.zero_add, Nat.reduceAdd, Nat.reduceSub, decide_true, List.cons_append, List.nil_append, List.append_nil, List.getElem?_cons_zero, List.getElem?_cons_succ, List.replicate, List.set_cons_zero, List.set_cons_succ, Int.cast_ofNat_Int, Int.reduceToNat, Int.reduceLE, Int.reduceLT, Int.reducePow, Int.reduceNeg, Int.reduceAdd, Int.reduceSub, Int.reduceMul, Int.reduceBEq, Int.reduceBNe, if_true, if_false, ↓reduceIte, Int.toNat_zero, List.not_mem_nil, not_false_eq_true, List.any_cons, List.any_nil, Bool.or_true, Bool.true_or, Bool.or_false, Bool.false_or, Bool.not_true, Bool.not_false, Bool.and_true, Bool.true_and, Bool.and_false, Bool.false_and, Nat.reduceLT, Nat.reduceLeDiff, bne_self_eq_false, Int.toNat_natCast, beq_self_eq_true, ds_fzs, Bool.false_eq_true, List.isEmpty_cons, List.isEmpty_nil, decide_false, wB0, wB1, wB2, wB3, wB4, wFor, wLcY, wLcX, wLc2, wZip, wZipM, wLz, wMm, wCmp, wSlc, wIdx, q_abs_int, q_add_list, q_add_tup, q_bT_tl, q_bT_tp, q_items_t, q_ix, q_mul_list, q_mul_tup, oi_n, oi_s, x1_non, *])
theorem rt_none (W m : Nat) {l l1 l2 l3 SO : List OV} {k : Int} {G GL : D} {SP SL : List D} {x1 x2 x3 : OV} {STR : Str} (d : D) (y1 y2 y3 y4 y5 y6 y7 y8 y9 : Option OV)
    (e1 : evF fns W m 5 [.ol l, oI 5] = some (oI k, [.ol l1])) (e2 : evF fns W m 10 [.ol l1, oI k] = some (.fz G, [.ol l2])) (e3 : evF fns W m 11 [.ol l2, oI k] = some (.ol SO, [.ol l3])) (dS : OV.ds SO = SP)
    (e4 : evF fns W m 15 [.fz G, .fz (.list SP)] = some (.fz .none, [])) (rp : rprD (.list [G, .list SP]) = some (.fz (.str STR))) (rn : cmpD .ne (.str STR) (.str STR) = some false)
    (g1 : x1.d = GL) (f1 : evF fns W m 12 [.fz G] = some (x1, [])) (g2 : x2.d = .list SL) (f2 : evF fns W m 12 [.fz (.list SP)] = some (x2, []))
    (e5 : evF fns W m 3 [.fz G, .fz (.list SP)] = some (.fz .none, [])) (e6 : evF fns W m 3 [.fz GL, .fz (.tuple SL)] = some (.fz .none, []))
    (s1 : evF fns W m 8 [.fz (.list [.none, .none]), .fz (.list [.none, .none])] = some (oB true, [])) (s2 : evF fns W m 8 [.fz .none, .fz .none] = some (oB true, []))
    (g3 : x3.d = .list [GL, .list SL]) (f3 : evF fns W m 12 [.fz (.list [G, .list SP])] = some (x3, [])) (cn : cmpD .ne (.list [GL, .list SL]) (.list [GL, .list SL]) = some false) :
    ∃ z1 z2 z3 z4 z5 z6 z7 z8 z9, turn ⟨evF fns W m, W⟩ (.nm 1) rtb d [some (.ol l), y1, y2, y3, y4, y5, y6, y7, y8, y9] = some (.nx [some (.ol l3), z1, z2, z3, z4, z5, z6, z7, z8, z9]) := by
  have z2 : decide (2 ≤ SZ) = true := by decide
  refine ⟨some (.fz d), some (oI k), some (.ol [.fz .none, .fz .none]), some (.fz G), some (.fz (.list SP)), some (.fz .none), some (.fz (.str STR)), some (.fz GL), some (.fz (.list SL)), ?_⟩
  unfold rtb f16
  walk_at "ev"
theorem rt_some (W m : Nat) {l l1 l2 l3 SO LC : List OV} {k : Int} {G GL GC : D} {SP SL LD : List D} {x1 x2 x3 : OV} {STR : Str} (d : D) (y1 y2 y3 y4 y5 y6 y7 y8 y9 : Option OV)
    (e1 : evF fns W m 5 [.ol l, oI 5] = some (oI k, [.ol l1])) (e2 : evF fns W m 10 [.ol l1, oI k] = some (.fz G, [.ol l2])) (e3 : evF fns W m 11 [.ol l2, oI k] = some (.ol SO, [.ol l3])) (dS : OV.ds SO = SP) (dL : OV.ds LC = LD) (hL : decide (LC.length < SZ) = true)
    (e4 : evF fns W m 15 [.fz G, .fz (.list SP)] = some (.ot [.fz GC, .ol LC], [])) (rp : rprD (.list [G, .list SP]) = some (.fz (.str STR))) (rn : cmpD .ne (.str STR) (.str STR) = some false)
    (g1 : x1.d = GL) (f1 : evF fns W m 12 [.fz G] = some (x1, [])) (g2 : x2.d = .list SL) (f2 : evF fns W m 12 [.fz (.list SP)] = some (x2, []))
    (e5 : evF fns W m 3 [.fz G, .fz (.list SP)] = some (.ot [.fz GC, .ol LC], [])) (e6 : evF fns W m 3 [.fz GL, .fz (.tuple SL)] = some (.ot [.fz GC, .ol LC], []))
    (s1 : evF fns W m 8 [.fz (.list [.tuple [GC, .list LD], .tuple [GC, .list LD]]), .fz (.list [.tuple [GC, .list LD], .tuple [GC, .list LD]])] = some (oB true, [])) (s2 : evF fns W m 8 [.fz (.tuple [GC, .list LD]), .fz (.tuple [GC, .list LD])] = some (oB true, []))
    (g3 : x3.d = .list [GL, .list SL]) (f3 : evF fns W m 12 [.fz (.list [G, .list SP])] = some (x3, [])) (cn : cmpD .ne (.list [GL, .list SL]) (.list [GL, .list SL]) = some false) :
    ∃ z1 z2 z3 z4 z5 z6 z7 z8 z9, turn ⟨evF fns W m, W⟩ (.nm 1) rtb d [some (.ol l), y1, y2, y3, y4, y5, y6, y7, y8, y9] = some (.nx [some (.ol l3), z1, z2, z3, z4, z5, z6, z7, z8, z9]) := by
  have z2 : decide (2 ≤ SZ) = true := by decide
  refine ⟨some (.fz d), some (oI k), none, some (.fz G), some (.fz (.list SP)), some (.fz (.tuple [GC, .list LD])), some (.fz (.str STR)), some (.fz GL), some (.fz (.list SL)), ?_⟩
  unfold rtb f16
  walk_at "ev"
theorem right_turn (W n : Nat) {m : Nat} {l : List OV} (b : Bx (m + 146) l) (d : D) (y1 y2 y3 y4 y5 y6 y7 y8 y9 : Option OV) : ∃ l' z1 z2 z3 z4 z5 z6 z7 z8 z9, Bx m l' ∧ turn ⟨evF fns W (n + 7), W⟩ (.nm 1) rtb d [some (.ol l), y1, y2, y3, y4, y5, y6, y7, y8, y9] = some (.nx [some (.ol l'), z1, z2, z3, z4, z5, z6, z7, z8, z9]) := by
  obtain ⟨r, l1, e1, b1, p1, q1⟩ := take_specB (F := fns) (t := 5) rfl W (n + 6) (m := m + 145) b (k := 5) (by decide) (by decide)
  obtain ⟨k, rfl⟩ := Int.eq_ofNat_of_zero_le p1
  have hk : k ≤ 4 := by omega
  have hk2 : k ≤ 100 := by omega
  obtain ⟨g, l2, hz, hg, b2, e2⟩ := rows_eq W (n + 2) (m := m + 20) (k := k) (by omega) (l := l1) b1
  obtain ⟨lo, hi, l3, hlo, hhi, b3, e3⟩ := ends_eq W (n + 3) (m := m) hk (l := l2) b2
  obtain ⟨R, hR, eG, eL⟩ := res_eq hk g lo hi hz
  have e4 := eL W (n + 1)
  have e5 := eG W (n + 4) false true (fun _ => false) (fun _ => false)
  have e6 := eG W (n + 4) true false (fun _ => true) (fun _ => true)
  obtain ⟨x1, g1, f1⟩ := loose_g W (n + 3) hk2 g
  obtain ⟨x2, g2, f2⟩ := loose_s W (n + 3) hk2 lo hi
  obtain ⟨x3, g3, f3⟩ := loose_b W (n + 3) hk2 g lo hi
  have rp := rpr_ok (n := 3) (d := .list [gapsT k g, .list (spSt k lo hi)]) (by decide) (sm_two false (sm_sq true (by omega) fun i => sm_sq true (by omega) fun j => sm_oi ((hg i j).up (by decide))) (sm_sq false (by omega) fun i => sm_two true (sm_oi (hlo i)) (sm_oi (hhi i)))) rfl
  have dS : OV.ds ((List.range k).map fun i => OV.fz (.tuple [oi (lo i), oi (hi i)])) = spSt k lo hi := ds_rng k _
  have cn : cmpD .ne (.list [rowsD true (fun _ => true) k g, .list (spSl k lo hi)]) (.list [rowsD true (fun _ => true) k g, .list (spSl k lo hi)]) = some false := (cmp_refl (n := 3) (ok_two false (ok_GL hk2 g) (ok_SL hk2 lo hi)) (by decide)).2
  rcases hR with rfl | ⟨M, rfl⟩
  · obtain ⟨z1, z2, z3, z4, z5, z6, z7, z8, z9, e⟩ := rt_none W (n + 7) d y1 y2 y3 y4 y5 y6 y7 y8 y9 e1 e2 e3 dS e4 rp.1 rp.2.2 g1 f1 g2 f2 e5 e6 (same_eq W (n + 1) rfl) (same_eq W (n + 1) rfl) g3 f3 cn
    exact ⟨l3, z1, z2, z3, z4, z5, z6, z7, z8, z9, b3, e⟩
  · have dL : OV.ds ((List.range k).map fun i => OV.fz (spanT k M i)) = (List.range k).map (spanT k M) := ds_rng k _
    have hL : decide (((List.range k).map fun i => OV.fz (spanT k M i)).length < SZ) = true := decide_eq_true (by rw [len_rng]; unfold SZ; omega)
    obtain ⟨z1, z2, z3, z4, z5, z6, z7, z8, z9, e⟩ := rt_some W (n + 7) d y1 y2 y3 y4 y5 y6 y7 y8 y9 e1 e2 e3 dS dL hL e4 rp.1 rp.2.2 g1 f1 g2 f2 e5 e6 (same_eq W (n + 1) (ok_two false (ok_C hk2 M) (ok_C hk2 M))) (same_eq W (n + 1) (ok_C (n := 2) hk2 M)) g3 f3 cn
    exact ⟨l3, z1, z2, z3, z4, z5, z6, z7, z8, z9, b3, e⟩
local macro_rules | `(tactic| walk_at "ev") => `(tactic| simp only [xRun, startE, List.map_cons, List.map_nil, List.length_cons, List.length_nil, Nat.zero_add, Nat.reduceAdd, Nat.reduceSub, decide_true, List.cons_append, List.nil_append, List.append_nil, List.getElem?_cons_zero, List.getElem?_cons_succ, List.replicate, List.set_cons_zero, List.set_cons_succ, Int.cast_ofNat_Int, Int.reduceToNat, Int.reduceLE, Int.reduceLT, Int.reducePow, Int.reduceNeg, Int.reduceAdd, Int.reduceSub, Int.reduceMul, Int.reduceBEq, Int.reduceBNe, if_true, if_false, ↓reduceIte, Int.toNat_zero, List.not_mem_nil, not_false_eq_true, List.any_cons, List.any_nil, Bool.or_true, Bool.true_or, Bool.or_false, Bool.false_or, Bool.not_true, Bool.not_false, Bool.and_true, Bool.true_and, Bool.and_false, Bool.false_and, Nat.reduceLT, Nat.reduceLeDiff, bne_self_eq_false, Int.toNat_natCast, beq_self_eq_true, ds_fzs, Bool.false_eq_true, List.isEmpty_cons, List.isEmpty_nil, decide_false, wB0, wB1, wB2, wB3, wB4, wLcY, wLcX, wLc2, wZip, wZipM, wLz, wMm, wCmp, wSlc, wIdx, q_abs_int, q_add_list, q_add_tup, q_bT_tl, q_bT_tp, q_items_t, q_ix, q_mul_list, q_mul_tup, oi_n, oi_s, x1_non, *])
theorem right_eq (W n : Nat) {l : List OV} (b : Bx 438 l) : ∃ l', evF fns W (n + 8) 16 [.ol l] = some (oB true, [.ol l']) := by
  obtain ⟨ρ', ⟨l', y1, y2, y3, y4, y5, y6, y7, y8, y9, b', rfl⟩, e⟩ := forX_range (C := ⟨evF fns W (n + 7), W⟩) (t := .nm 1) (b := rtb) (n := 3) (fun i ρ => ∃ (l2 : List OV) (y1 y2 y3 y4 y5 y6 y7 y8 y9 : Option OV), Bx (146 * (3 - i)) l2 ∧ ρ = [some (.ol l2), y1, y2, y3, y4, y5, y6, y7, y8, y9]) (by
    rintro i hi ρ ⟨l2, y1, y2, y3, y4, y5, y6, y7, y8, y9, b2, rfl⟩
    obtain ⟨l3, z1, z2, z3, z4, z5, z6, z7, z8, z9, b3, e3⟩ := right_turn W n (m := 146 * (3 - (i + 1))) (l := l2) (b2.mono (by omega)) (.int (i : Nat)) y1 y2 y3 y4 y5 y6 y7 y8 y9
    exact ⟨_, ⟨l3, z1, z2, z3, z4, z5, z6, z7, z8, z9, b3, rfl⟩, e3⟩) (ρ := [some (.ol l), none, none, none, none, none, none, none, none, none]) ⟨l, none, none, none, none, none, none, none, none, none, b, rfl⟩
  refine ⟨l', ?_⟩
  have en := none_eq W (n + 4)
  have s := same_eq W (n + 1) (d := .tuple [.tuple [], .list []]) rfl
  have r3 : rngOk 3 = true := by decide
  have z0 : decide (0 ≤ SZ) = true := by decide
  have z2 : decide (2 ≤ SZ) = true := by decide
  unfold rtb f16 at e
  clear b b'
  rw [ev_call (f := f16) rfl]
  unfold f16
  walk_at "ev"
theorem law_eq (W n : Nat) (ns : List Int) : evF fns W (n + 9) 17 [.fz (.list (ns.map .int))] = some (oB true, []) :=
  lawB (F := fns) (g := 17) (c := 6) (b := 4) (r := 16) (K := 3) rfl rfl rfl (by decide) (by decide) 438 (by decide) W (n + 7) (fun l b => right_eq W n b) ns
end PFL

namespace PFL
def depth : Nat := 32
theorem lawOk : PF.LawOk txt lawIx (top 19) f17 "_law_script" 100 depth := by
  refine ⟨chk, bind, kwok, rfl, rfl, by decide +kernel, by decide +kernel, rfl, ?_⟩
  intro ns _
  exact law_eq _ 24 ns
end PFL

open PySem PySem.W PySem.Calls PyProof.Rows
theorem PySem.Challenge.cw_shadowruns_k40_gaps_closed_by_ways_holds : PySem.Challenge.rw_shadowruns_k40_gaps_closed_by_ways.Holds := by
  w_on; o_law
  refine HandSHeadRun.head_any (r := OpenLaw.row PySem.Challenge.rw_shadowruns_k40_gaps_closed_by_ways) (q := view (OpenLaw.row PySem.Challenge.rw_shadowruns_k40_gaps_closed_by_ways).prog [19]) (H := PFL.hk) (ob := PFL.ob) (M := 2000) (loose := PFL.loose) (d := HandSHeadRun.topDef (OpenLaw.row PySem.Challenge.rw_shadowruns_k40_gaps_closed_by_ways).prog 19) (kwd := []) PFL.ob_eq
    (by kernel_rfl) (fun s => by kernel_rfl) PFL.run (by kernel_rfl) (by kernel_rfl) (by kernel_rfl) (by rfl) (by first | assumption | decide +kernel) (by decide +kernel) ⟨rfl, rfl, rfl, rfl, rfl, by decide +kernel⟩ ?hw ?hc
  case hw => w_witness2
  case hc =>
    refine PF.walk_ofG (l := PySem.Challenge.rw_shadowruns_k40_gaps_closed_by_ways) (n := 63) (k := PFL.depth + 1) (x := "_law_script") rfl (by decide) (by kernel_rfl) ⟨rfl, by decide, by decide⟩ ?F
    intro w mg fa h Y G hmg0
    have hmg : mg ("law" : PySem.Str) = some (.ref fa) := by
      have e : (HandSHeadRun.topDef (OpenLaw.row PySem.Challenge.rw_shadowruns_k40_gaps_closed_by_ways).prog 19).name = ("law" : PySem.Str) := by kernel_rfl
      rw [← e]
      exact hmg0
    exact PF.law_F PFL.lawOk w mg fa h Y G hmg


