import PyProof.Rows.All
import Wide.All
import OpenK.AllK
import Wide.FinOn
import HandS.ForMost
import HandS.Wide
import HandS.Text
import HandS.Deep
import KE.KDictKeyed
import KE.KeyNested
import HandS.TupAny
import HandS.TupMul
import HandS.IsInst
import HandS.Style
import HandS.SortInts
import HandS.Zip
import HandS.Conv
import HandS.TupLen
import HandS.More
import HandS.SetFor
import HandS.DictTup
import HandS.TupSets
import KE.KDictSum
import KE.GoesEnum
import HandS.TryOnly
import HandS.Iter
import KE.KDictDisplayH
import KE.KDictIter
import HandS.EndBits
import HandS.Defaults
import PySem.Challenge.RW_oneglance_k55_stuck_or_free
set_option Elab.async false
set_option linter.all false
set_option maxRecDepth 100000
set_option maxHeartbeats 4000000
/-! DL1: data, heaps, the small language R, its meaning. -/
namespace DL
open PySem L2

/-- data: tuples by value, all that changes by its address -/
inductive D where
  | non | bl (b : Bool) | int (i : Int) | str (s : List Nat) | ref (a : Addr) | tup (ds : List D)
  deriving Inhabited
/-- what an expression gives: data; a list that nobody else holds (vl), one that is lent (bw); dicts, sets alike -/
inductive Vx where
  | d (x : D) | vl (ds : List D) | bw (ds : List D) | fz (ds : List D) | vd (kvs : List (D × D)) | bd (kvs : List (D × D)) | st (ds : List D)
/-- what stands at an address -/
inductive O where
  | lst (ds : List D) | dic (kvs : List (D × D)) | ins (c : Nat) (fs : List D)
  /-- a dict that is walked: locked -/
  | fdc (kvs : List (D × D)) (h : HO)
  /-- a dict whose keys are tuples; one that is walked -/
  | dn (kvs : List (D × D)) | fdn (kvs : List (D × D)) (h : HO) (xs : List (NestedKey × Addr × Value))
abbrev Hs := Addr → Option O
def su (s : Hs) (a : Addr) (o : O) : Hs := fun b => if b = a then some o else s b
/-- all but a -/
def mn (a : Addr) (s : Hs) : Hs := fun b => if b = a then none else s b
theorem mn_same {s : Hs} {a : Addr} : mn a s a = none := by unfold mn; rw [if_pos rfl]
theorem mn_ne {s : Hs} {a b : Addr} (h : b ≠ a) : mn a s b = s b := by unfold mn; rw [if_neg h]
theorem su_same {s : Hs} {a : Addr} {o : O} : su s a o a = some o := by unfold su; rw [if_pos rfl]
theorem su_ne {s : Hs} {a b : Addr} {o : O} (h : b ≠ a) : su s a o b = s b := by unfold su; rw [if_neg h]
abbrev Sl := List (Option Vx)

/-- a container -/
inductive Cn where
  | l (ds : List D) | f (ds : List D) | k (kvs : List (D × D)) | t (ds : List D) | s (cs : List Nat) | i (c : Nat) (fs : List D) | e (ds : List D) | kf (kvs : List (D × D)) | kn (kvs : List (D × D)) | kfn (kvs : List (D × D))
def O.cn : O → Cn
  | .lst ds => .l ds
  | .dic kvs => .k kvs
  | .ins c fs => .i c fs
  | .fdc kvs _ => .kf kvs
  | .dn kvs => .kn kvs
  | .fdn kvs _ _ => .kfn kvs
def view : Vx → Hs → (Cn → Prop) → Prop
  | .d (.tup ds), _, K => K (.t ds)
  | .d (.str s), _, K => K (.s s)
  | .d (.ref a), S, K => ∃ o, S a = some o ∧ K o.cn
  | .vl ds, _, K => K (.l ds)
  | .bw ds, _, K => K (.l ds)
  | .fz ds, _, K => K (.f ds)
  | .vd kvs, _, K => K (.k kvs)
  | .bd kvs, _, K => K (.k kvs)
  | .st ds, _, K => K (.e ds)
  | _, _, _ => False
/-- lent -/
def bor : Vx → Vx
  | .vl ds => .bw ds
  | .vd kvs => .bd kvs
  | x => x
/-- given away: what nobody holds comes to stand in the heap -/
def bx : Vx → Hs → (D → Hs → Prop) → Prop
  | .d x, S, K => K x S
  | .vl ds, S, K => ∀ a, S a = none → K (.ref a) (su S a (.lst ds))
  | .vd kvs, S, K => ∀ a, S a = none → K (.ref a) (su S a (.dic kvs))
  | _, _, _ => False

/-! ### equality of data, as Python has it -/
mutual
def eqB : D → D → Bool
  | .non, .non => true
  | .bl a, .bl b => a == b
  | .bl a, .int j => decide ((if a then 1 else 0 : Int) = j)
  | .int i, .bl b => decide (i = (if b then 1 else 0 : Int))
  | .int i, .int j => decide (i = j)
  | .str a, .str b => decide (a = b)
  | .tup a, .tup b => eqBs a b
  | _, _ => false
def eqBs : List D → List D → Bool
  | [], [] => true
  | a :: as, b :: bs => eqB a b && eqBs as bs
  | _, _ => false
end
/-! no address within, at most so deep, texts of real signs -/
mutual
def pl : Nat → D → Bool
  | _, .ref _ => false
  | 0, .tup _ => false
  | n + 1, .tup ds => pls n ds
  | _, .str s => s.all fun c => decide (c < 1114112)
  | _, _ => true
def pls : Nat → List D → Bool
  | _, [] => true
  | n, d :: ds => pl n d && pls n ds
end
abbrev pln (d : D) : Bool := pl 60 d
abbrev plns (ds : List D) : Bool := pls 60 ds
/-- no tuple, no address -/
def flatD : D → Bool
  | .tup _ => false
  | .ref _ => false
  | _ => true
def getI {α : Type} (ds : List α) (i : Int) : Option α := match i with
  | .ofNat n => ds[n]?
  | .negSucc n => if n < ds.length then ds[ds.length - (n + 1)]? else none
def dget : List (D × D) → D → Option D
  | [], _ => none
  | (k, v) :: r, x => match eqB k x with
    | true => some v
    | false => dget r x
def dhas (kvs : List (D × D)) (x : D) : Bool := (dget kvs x).isSome
def dput (kvs : List (D × D)) (x y : D) : List (D × D) := match dhas kvs x with
  | true => kvs.map fun p => match eqB p.1 x with
    | true => (p.1, y)
    | false => p
  | false => kvs ++ [(x, y)]
/-- a key of a dict: a whole number or a text -/
def keyD : D → Bool
  | .int _ => true
  | .str _ => true
  | _ => false
/-- a key of a dict of tuples: a tuple without addresses, at most eight deep -/
def keyN : D → Bool
  | .tup ds => pl 8 (.tup ds)
  | _ => false
def seqOf : Cn → Option (List D)
  | .l ds => some ds
  | .f ds => some ds
  | .t ds => some ds
  | _ => none

/-! ### operators -/
inductive O2 where
  | add | sub | mul | fdiv | mod | pow | idx | eq | ne | lt | le | gt | ge | is | isnt | mem | nmem | min | max | eqh | neh | memh | nmemh
  deriving DecidableEq
inductive Ty where
  | int | bool | str | tuple | list | dict
  deriving DecidableEq
inductive O1 where
  | neg | len | int | str | list | tuple | sorted | all | any | dict | dictP | sortedP | sum | maxl | minl | sortedN | sortedDn | listDn | listK | lenDn | isi (t : Ty)
  deriving DecidableEq
def mulOk (i j : Int) : Prop := ((-(2 ^ 64) < i ∧ i < 2 ^ 64) ∨ (-(2 ^ 64) < j ∧ j < 2 ^ 64)) ∨ i.natAbs.log2 + j.natAbs.log2 < 1000000
def fdivOk (_ j : Int) : Prop := 0 < j ∧ j.natAbs.log2 < 9000
def powOk (i j : Int) : Prop := 0 ≤ j ∧ j ≤ 1000000 ∧ i.natAbs < 2 ^ 64
abbrev VK2 := Vx → Hs → Prop
def addC : Cn → Cn → Hs → VK2 → Prop
  | .l a, .l b, S, Q => a.length + b.length ≤ sizeLine ∧ Q (.vl (a ++ b)) S
  | _, _, _, _ => False
def addD : Vx → Vx → Hs → VK2 → Prop
  | .d (.int i), .d (.int j), S, Q => Q (.d (.int (i + j))) S
  | .d (.str a), .d (.str b), S, Q => a.length + b.length ≤ sizeLine ∧ Q (.d (.str (a ++ b))) S
  | .d (.tup a), .d (.tup b), S, Q => a.length + b.length ≤ sizeLine ∧ Q (.d (.tup (a ++ b))) S
  | x, y, S, Q => view x S fun c => view y S fun c' => addC c c' S Q
def repD {α : Type} (xs : List α) (n : Nat) : List α := (List.replicate n xs).flatten
def mulC : Cn → Int → Hs → VK2 → Prop
  | .l a, k, S, Q => k < 2 ^ 62 ∧ a.length * k.toNat ≤ sizeLine ∧ Q (.vl (repD a k.toNat)) S
  | _, _, _, _ => False
def mulD : Vx → Vx → Hs → VK2 → Prop
  | .d (.int i), .d (.int j), S, Q => mulOk i j ∧ Q (.d (.int (i * j))) S
  | .d (.tup a), .d (.int k), S, Q => (-(2 ^ 62) < k ∧ k ≤ 1000 ∧ a.length ≤ 1000) ∧ Q (.d (.tup (repD a k.toNat))) S
  | x, .d (.int k), S, Q => -(2 ^ 62) < k ∧ view x S fun c => mulC c k S Q
  | _, _, _, _ => False
def intD (f : Int → Int → VK2 → Hs → Prop) : Vx → Vx → Hs → VK2 → Prop
  | .d (.int i), .d (.int j), S, Q => f i j Q S
  | _, _, _, _ => False
def idxC : Cn → D → Hs → VK2 → Prop
  | .l ds, .int i, S, Q => ∃ y, getI ds i = some y ∧ Q (.d y) S
  | .f ds, .int i, S, Q => ∃ y, getI ds i = some y ∧ Q (.d y) S
  | .t ds, .int i, S, Q => ∃ y, getI ds i = some y ∧ Q (.d y) S
  | .s cs, .int i, S, Q => cs.length ≤ sizeLine ∧ ∃ c, getI cs i = some c ∧ Q (.d (.str [c])) S
  | .k kvs, x, S, Q => keyD x = true ∧ ∃ y, dget kvs x = some y ∧ Q (.d y) S
  | .kf kvs, x, S, Q => keyD x = true ∧ ∃ y, dget kvs x = some y ∧ Q (.d y) S
  | .kn kvs, x, S, Q => keyN x = true ∧ ∃ y, dget kvs x = some y ∧ Q (.d y) S
  | .kfn kvs, x, S, Q => keyN x = true ∧ ∃ y, dget kvs x = some y ∧ Q (.d y) S
  | _, _, _, _ => False
def idxD : Vx → Vx → Hs → VK2 → Prop
  | x, .d k, S, Q => view x S fun c => idxC c k S Q
  | _, _, _, _ => False
/-- equality of containers: sequences of one kind without addresses -/
def eqC : Cn → Cn → (Bool → Prop) → Prop
  | .l a, .l b, K => (b = [] ∨ (plns a = true ∧ plns b = true)) ∧ K (eqBs a b)
  | .k a, .k b, K => b = [] ∧ K a.isEmpty
  | _, _, _ => False
def eqD : Vx → Vx → Hs → (Bool → Prop) → Prop
  | .d (.ref a), y, S, K => view (.d (.ref a)) S fun c => view y S fun c' => eqC c c' K
  | .d x, .d (.ref b), S, K => False
  | .d x, .d y, _, K => pln x = true ∧ pln y = true ∧ K (eqB x y)
  | x, y, S, K => view x S fun c => view y S fun c' => eqC c c' K
def isD : Vx → Vx → Option Bool
  | .d .non, .d .non => some true
  | _, .d .non => some false
  | .d (.bl a), .d (.bl b) => some (decide (a = b))
  | _, _ => none
def memC : Cn → D → (Bool → Prop) → Prop
  | .l ds, x, K => pln x = true ∧ plns ds = true ∧ K (ds.any fun y => eqB y x)
  | .t ds, x, K => flatD x = true ∧ ds.all flatD = true ∧ K (ds.any fun y => eqB y x)
  | .k kvs, x, K => keyD x = true ∧ K (dhas kvs x)
  | .kf kvs, x, K => keyD x = true ∧ K (dhas kvs x)
  | .kn kvs, x, K => keyN x = true ∧ K (dhas kvs x)
  | .kfn kvs, x, K => keyN x = true ∧ K (dhas kvs x)
  | .s cs, .str [c], K => K (decide (c ∈ cs))
  | _, _, _ => False
def memD : Vx → Vx → Hs → (Bool → Prop) → Prop
  | .d x, y, S, K => view y S fun c => memC c x K
  | _, _, _, _ => False
/-- in a tuple, whatever stands there -/
def memHC : Cn → D → (Bool → Prop) → Prop
  | .t ds, x, K => pln x = true ∧ (pls 59 ds = true ∧ plns ds = true) ∧ K (ds.any fun y => eqB y x)
  | _, _, _ => False
def memH : Vx → Vx → Hs → (Bool → Prop) → Prop
  | .d x, y, S, K => view y S fun c => memHC c x K
  | _, _, _, _ => False
def ltD (p : Int → Int → Bool) : Vx → Vx → Hs → VK2 → Prop := intD fun i j Q S => Q (.d (.bl (p i j))) S
/-! data with what stands in the heap, read whole -/
mutual
def resP (S : Hs) : Nat → D → Option PyData
  | _, .non => some .none
  | _, .bl b => some (.bool b)
  | _, .int i => some (.int i)
  | _, .str s => some (.str ⟨s.toArray⟩)
  | n + 1, .tup ds => (resPs S n ds).map PyData.tuple
  | n + 1, .ref a => match S a with
    | some (.lst ds) => (resPs S n ds).map PyData.list
    | _ => none
  | 0, _ => none
  termination_by n d => (n, sizeOf d)
def resPs (S : Hs) : Nat → List D → Option (List PyData)
  | _, [] => some []
  | n, d :: ds => match resP S n d, resPs S n ds with
    | some p, some ps => some (p :: ps)
    | _, _ => none
  termination_by n ds => (n, sizeOf ds)
end
def resX (S : Hs) : Vx → Option PyData
  | .d x => resP S 50 x
  | .vl ds => (resPs S 49 ds).map PyData.list
  | .bw ds => (resPs S 49 ds).map PyData.list
  | _ => none
def eqH (x y : Vx) (S : Hs) (K : Bool → Prop) : Prop := ∃ p q, resX S x = some p ∧ resX S y = some q ∧ SeqAt.shaped p = true ∧ SeqAt.shaped q = true ∧ K (PyData.eqv p q)
def op2D : O2 → Vx → Vx → Hs → VK2 → Prop
  | .add, x, y, S, Q => addD x y S Q
  | .sub, x, y, S, Q => intD (fun i j Q S => Q (.d (.int (i - j))) S) x y S Q
  | .mul, x, y, S, Q => mulD x y S Q
  | .fdiv, x, y, S, Q => intD (fun i j Q S => fdivOk i j ∧ Q (.d (.int (i / j))) S) x y S Q
  | .mod, x, y, S, Q => intD (fun i j Q S => 0 < j ∧ Q (.d (.int (i % j))) S) x y S Q
  | .pow, x, y, S, Q => intD (fun i j Q S => powOk i j ∧ Q (.d (.int (i ^ j.toNat))) S) x y S Q
  | .idx, x, y, S, Q => idxD x y S Q
  | .eq, x, y, S, Q => eqD x y S fun b => Q (.d (.bl b)) S
  | .ne, x, y, S, Q => eqD x y S fun b => Q (.d (.bl (!b))) S
  | .eqh, x, y, S, Q => eqH x y S fun b => Q (.d (.bl b)) S
  | .neh, x, y, S, Q => eqH x y S fun b => Q (.d (.bl (!b))) S
  | .lt, x, y, S, Q => ltD (fun i j => decide (i < j)) x y S Q
  | .le, x, y, S, Q => ltD (fun i j => decide (i ≤ j)) x y S Q
  | .gt, x, y, S, Q => ltD (fun i j => decide (j < i)) x y S Q
  | .ge, x, y, S, Q => ltD (fun i j => decide (j ≤ i)) x y S Q
  | .is, x, y, S, Q => ∃ b, isD x y = some b ∧ Q (.d (.bl b)) S
  | .isnt, x, y, S, Q => ∃ b, isD x y = some b ∧ Q (.d (.bl (!b))) S
  | .mem, x, y, S, Q => memD x y S fun b => Q (.d (.bl b)) S
  | .nmem, x, y, S, Q => memD x y S fun b => Q (.d (.bl (!b))) S
  | .memh, x, y, S, Q => memH x y S fun b => Q (.d (.bl b)) S
  | .nmemh, x, y, S, Q => memH x y S fun b => Q (.d (.bl (!b))) S
  | .min, x, y, S, Q => intD (fun i j Q S => Q (.d (.int (if j < i then j else i))) S) x y S Q
  | .max, x, y, S, Q => intD (fun i j Q S => Q (.d (.int (if j > i then j else i))) S) x y S Q
def lenC : Cn → Option Nat
  | .l ds => some ds.length
  | .f ds => some ds.length
  | .t ds => some ds.length
  | .k kvs => some kvs.length
  | .s cs => if cs.length ≤ sizeLine then some cs.length else none
  | .e ds => some ds.length
  | .i _ _ => none
  | .kf _ => none
  | .kn _ => none
  | .kfn _ => none
def Ty.isD : Ty → D → Hs → Option Bool
  | t, .non, _ => some false
  | t, .bl _, _ => some (decide (t = .bool) || decide (t = .int))
  | t, .int _, _ => some (decide (t = .int))
  | t, .str _, _ => some (decide (t = .str))
  | t, .tup _, _ => some (decide (t = .tuple))
  | t, .ref a, S => match S a with
    | some (.lst _) => some (decide (t = .list))
    | some (.dic _) => some (decide (t = .dict))
    | _ => none
def negD : Vx → Hs → VK2 → Prop
  | .d (.int i), S, Q => Q (.d (.int (-i))) S
  | _, _, _ => False
def toIntD : Vx → Hs → VK2 → Prop
  | .d (.int i), S, Q => Q (.d (.int i)) S
  | .d (.bl b), S, Q => Q (.d (.int (if b then 1 else 0))) S
  | _, _, _ => False
def strD : Vx → Hs → VK2 → Prop
  | .d (.int i), S, Q => i.natAbs.log2 < 1920 ∧ Q (.d (.str ((toString i : String).toList.map Char.toNat))) S
  | _, _, _ => False
def isiD (t : Ty) : Vx → Hs → VK2 → Prop
  | .d x, S, Q => ∃ b, t.isD x S = some b ∧ Q (.d (.bl b)) S
  | .bw _, S, Q => Q (.d (.bl (decide (t = .list)))) S
  | _, _, _ => False
/-- what is sorted: a list of ints, a dict with int keys -/
def srtOf (c : Cn) (ns : List Int) : Prop := c = .l (ns.map D.int) ∨ (∃ kvs, c = .k kvs ∧ kvs.map Prod.fst = ns.map D.int ∧ ns.length < 64) ∨ c = .t (ns.map D.int)
abbrev pairD (p : Int × Int) : D := .tup [.int p.1, .int p.2]
def ltP2 (p q : Int × Int) : Prop := p.1 < q.1 ∨ (p.1 = q.1 ∧ p.2 < q.2)
/-- pairs sorted -/
def srtP (qs : List (Int × Int)) : Prop := qs.Pairwise fun p q => ¬ ltP2 q p
def mrgD (kvs more : List (D × D)) : List (D × D) := more.foldl (fun acc kv => dput acc kv.1 kv.2) kvs
abbrev tupI (p : List Int) : D := .tup (p.map D.int)
/-- tuples of ints in their order -/
def lexN : List Int → List Int → Bool
  | [], [] => false
  | [], _ :: _ => true
  | _ :: _, [] => false
  | x :: p, y :: q => if x = y then lexN p q else decide (x < y)
def srtN (ps : List (List Int)) : Prop := ps.Pairwise fun p q => lexN q p = false
def op1D : O1 → Vx → Hs → VK2 → Prop
  | .neg, x, S, Q => negD x S Q
  | .len, x, S, Q => view x S fun c => ∃ n, lenC c = some n ∧ Q (.d (.int (n : Int))) S
  | .int, x, S, Q => toIntD x S Q
  | .str, x, S, Q => strD x S Q
  | .list, x, S, Q => view x S fun c => ∃ ds, seqOf c = some ds ∧ Q (.vl ds) S
  | .tuple, x, S, Q => view x S fun c => ∃ ds, seqOf c = some ds ∧ Q (.d (.tup ds)) S
  | .sorted, x, S, Q => view x S fun c => ∃ ns : List Int, srtOf c ns ∧ ∀ ns' : List Int, ns'.Perm ns → ns'.Pairwise (· ≤ ·) → Q (.vl (ns'.map D.int)) S
  | .sortedP, x, S, Q => view x S fun c => ∃ ps : List (Int × Int), c = .l (ps.map pairD) ∧ ∀ qs : List (Int × Int), qs.Perm ps → srtP qs → Q (.vl (qs.map pairD)) S
  | .sortedN, x, S, Q => view x S fun c => ∃ ps : List (List Int), c = .l (ps.map tupI) ∧ (∀ p ∈ ps, p ≠ []) ∧ ∀ qs : List (List Int), qs.Perm ps → srtN qs → Q (.vl (qs.map tupI)) S
  | .sortedDn, x, S, Q => view x S fun c => ∃ (kvs : List (D × D)) (ps : List (List Int)), c = .kn kvs ∧ kvs.map Prod.fst = ps.map tupI ∧ (∀ p ∈ ps, p ≠ []) ∧ ∀ qs : List (List Int), qs.Perm ps → srtN qs → Q (.vl (qs.map tupI)) S
  | .listK, x, S, Q => view x S fun c => ∃ kvs, c = .k kvs ∧ Q (.vl (kvs.map Prod.fst)) S
  | .listDn, x, S, Q => view x S fun c => ∃ kvs, c = .kn kvs ∧ Q (.vl (kvs.map Prod.fst)) S
  | .lenDn, x, S, Q => view x S fun c => ∃ kvs, c = .kn kvs ∧ Q (.d (.int (kvs.length : Nat))) S
  | .sum, x, S, Q => view x S fun c => ∃ ns : List Int, c = .l (ns.map D.int) ∧ Q (.d (.int ns.sum)) S
  | .maxl, x, S, Q => view x S fun c => ∃ ns : List Int, c = .l (ns.map D.int) ∧ 0 < ns.length ∧ ∀ m, m ∈ ns → (∀ y, y ∈ ns → y ≤ m) → Q (.d (.int m)) S
  | .minl, x, S, Q => view x S fun c => ∃ ns : List Int, c = .l (ns.map D.int) ∧ 0 < ns.length ∧ ∀ m, m ∈ ns → (∀ y, y ∈ ns → m ≤ y) → Q (.d (.int m)) S
  | .dict, x, S, Q => view x S fun c => ∃ kvs, c = .k kvs ∧ Q (.vd kvs) S
  | .dictP, x, S, Q => view x S fun c => ∃ ps : List (Int × Int), c = .l (ps.map pairD) ∧ Q (.vd (mrgD [] (ps.map fun p => (D.int p.1, D.int p.2)))) S
  | .all, x, S, Q => view x S fun c => ∃ (ds : List D) (bs : List Bool), c = .l ds ∧ ds = bs.map D.bl ∧ Q (.d (.bl (bs.all id))) S
  | .any, x, S, Q => view x S fun c => ∃ (ds : List D) (bs : List Bool), c = .l ds ∧ ds = bs.map D.bl ∧ Q (.d (.bl (bs.any id))) S
  | .isi t, x, S, Q => isiD t x S Q

/-! ### mutators: the container behind, the value told -/
inductive M where
  | append | pop | popAt | insert | extend | clear | setI | remove
  deriving DecidableEq
def insD {α : Type} (xs : List α) (n : Nat) (x : α) : List α := xs.take n ++ x :: xs.drop n
/-- a key dropped -/
def ddrop (kvs : List (D × D)) (k : D) : List (D × D) := kvs.filter fun p => !eqB p.1 k
def mutC : M → Cn → List Vx → Hs → (Cn → D → Prop) → Prop
  | .append, .l ds, [.d x], _, K => ds.length < sizeLine ∧ K (.l (ds ++ [x])) .non
  | .pop, .l ds, [], _, K => ∃ y, ds[ds.length - 1]? = some y ∧ K (.l ds.dropLast) y
  | .popAt, .l ds, [.d (.int (.ofNat n))], _, K => ∃ y, ds[n]? = some y ∧ K (.l (ds.eraseIdx n)) y
  | .setI, .l ds, [.d (.int (.ofNat n)), .d x], _, K => n < ds.length ∧ K (.l (ds.set n x)) .non
  | .setI, .l ds, [.d (.int (.negSucc n)), .d x], _, K => n < ds.length ∧ K (.l (ds.set (ds.length - (n + 1)) x)) .non
  | .setI, .k kvs, [.d k, .d x], _, K => keyD k = true ∧ kvs.length < sizeLine ∧ K (.k (dput kvs k x)) .non
  | .setI, .kn kvs, [.d k, .d x], _, K => keyN k = true ∧ kvs.length < sizeLine ∧ K (.kn (dput kvs k x)) .non
  | .insert, .l ds, [.d (.int (.ofNat n)), .d x], _, K => ds.length < sizeLine ∧ n < 1000000 ∧ K (.l (ds.take n ++ [x] ++ ds.drop n)) .non
  | .extend, .l ds, [x], S, K => view x S fun c => ∃ es, c = .l es ∧ ds.length + es.length ≤ sizeLine ∧ K (.l (ds ++ es)) .non
  | .clear, .l ds, [], _, K => K (.l []) .non
  | .remove, .l ds, [.d (.int k)], _, K => ∃ (ns : List Int) (j : Nat), ds = ns.map D.int ∧ ns[j]? = some k ∧ (∀ m : Nat, m < j → ns[m]? ≠ some k) ∧ K (.l ((ns.eraseIdx j).map D.int)) .non
  | _, _, _, _, _ => False
def Cn.o : Cn → Option O
  | .l ds => some (.lst ds)
  | .k kvs => some (.dic kvs)
  | .kn kvs => some (.dn kvs)
  | _ => none
def Cn.v : Cn → Vx
  | .l ds => .vl ds
  | .k kvs => .vd kvs
  | _ => .d .non

/-- methods that read -/
inductive BM where
  | index | count | join | split
  deriving DecidableEq
/-! ### the language -/
inductive Tg where
  | nm (i : Nat) | tp (is : List Nat)
  deriving DecidableEq
inductive R where
  -- expressions
  | v (i : Nat) | i (n : Int) | s (x : List Nat) | b (x : Bool) | n | g (k : Nat)
  | o1 (o : O1) (a : R) | o2 (o : O2) (a b : R)
  | nil | cons (a r : R) | consb (a r : R) | pr (k v r : R)
  | tup (as : R) | lst (as : R) | dct | dctp (ps : R) | get1 (o k : R) | dpop (o k : R) | get2 (o k d : R)
  | and (a r : R) | or (a r : R) | one (a : R) | not (a : R) | ife (c a b : R)
  | chain (o o' : O2) (a b c : R)
  | slc (a lo hi : R)
  | call (f : Nat) (as : R) | meth (f : Nat) (o as : R) | make (c : Nat) (as : R) | maken (c : Nat) (as : R)
  | fld (o : R) (ci k : Nat)
  | hm (m : M) (o as : R)
  | comp (tg : Tg) (elt it tst : R) | lockE (e : R)
  | sIt (e : R) | rev (e : R) | lrg (a : R) | bm1 (m : BM) (o a : R) | upper (o : R) | setop (k : Bool) (a : R)
  | lend (i : Nat) (e : R) | dctn | lockEN (e : R) | stp (a k : R) | dctn1 (k v : R) | lockV (e : R)
  -- what is walked
  | itv (i : Nat) | ite (e : R) | rng (a : R) | rng2 (a b : R) | enu (a : R) | zip (a b : R) | itk (e : R) | itms (e : R) | itkn (e : R) | enuk (e : R)
  -- statements
  | seq (a r : R) | skip | expr (e : R) | set (i : Nat) (e : R) | setT (is : List Nat) (e : R)
  | seti (o k e : R) | fset (o : R) (ci k : Nat) (e : R) | setNAN (i : Nat) (o : R) (ci k j : Nat) (e : R)
  | iff (c a r : R) | whl (c a : R) | for (tg : Tg) (it a : R)
  | ret (e : R) | retn | retv (i : Nat) | brk | cnt | never | box (i : Nat)
  | om (m : M) (i : Nat) (as : R) (dst : Option Nat) | oseti (i : Nat) (k e : R) | faug (o : R) (ci k : Nat) (e : R) | lock (st : R) | tryp (st : R) | lockN (st : R) | slcset (o e : R)
  deriving Inhabited

structure Fn where
  np : Nat
  nl : Nat
  body : R
structure Tbl where
  fn : Nat → Option Fn
  glob : Nat → Vx
  cini : Nat → Nat
  fcls : Nat → Nat

abbrev LK2 := List Vx → Hs → Prop
def one1 (Q : VK2) : LK2 := fun xs S => match xs with
  | [x] => Q x S
  | _ => False
/-- a truth -/
def tstK (K : Bool → Hs → Prop) : VK2 := fun x S => match x with
  | .d (.bl b) => K b S
  | _ => False
structure Br (b : Bool) (A B : Prop) : Prop where
  t : b = true → A
  f : b = false → B
structure It2 where
  items : List D
  ok : Sl → Hs → Prop
  tu : Bool
/-- targets -/
def bindN : List Nat → List D → Sl → Option Sl
  | [], [], σ => some σ
  | i :: is, x :: xs, σ => bindN is xs (σ.set i (some (.d x)))
  | _, _, _ => none
def bindT : Tg → D → Sl → (Sl → Prop) → Prop
  | .nm i, x, σ, K => K (σ.set i (some (.d x)))
  | .tp is, .tup xs, σ, K => ∃ σ', bindN is xs σ = some σ' ∧ K σ'
  | _, _, _, _ => False
/-- a comprehension's turns -/
def compL (tg : Tg) (ok : Sl → Hs → Prop) (elt : Sl → Hs → (D → Hs → Prop) → Prop) (tst : Sl → Hs → (Bool → Hs → Prop) → Prop) (σ : Sl) : List D → List D → Hs → (List D → Hs → Prop) → Prop
  | [], acc, S, K => ok σ S ∧ K acc S
  | x :: xs, acc, S, K => ok σ S ∧ bindT tg x σ fun σ' => tst σ' S fun b S1 => Br b
      (elt σ' S1 fun y S2 => acc.length < sizeLine ∧ compL tg ok elt tst σ xs (acc ++ [y]) S2 K) (compL tg ok elt tst σ xs acc S1 K)
def zipD : List D → List D → List D
  | a :: as, b :: bs => .tup [a, b] :: zipD as bs
  | _, _ => []
def enumD : Nat → List D → List D
  | _, [] => []
  | n, a :: as => .tup [.int n, a] :: enumD (n + 1) as
def rngD (lo : Int) : Nat → List D
  | 0 => []
  | n + 1 => .int lo :: rngD (lo + 1) n
def cutI (xs : List α) (lo hi : Option Int) : List α := (xs.drop (HT.sIx xs.length 0 lo)).take (HT.sIx xs.length xs.length hi - HT.sIx xs.length 0 lo)
def slcC : Cn → Option Int → Option Int → Hs → VK2 → Prop
  | .l ds, lo, hi, S, Q => Q (.vl (cutI ds lo hi)) S
  | .f ds, lo, hi, S, Q => Q (.vl (cutI ds lo hi)) S
  | .t ds, lo, hi, S, Q => Q (.d (.tup (cutI ds lo hi))) S
  | .s cs, lo, hi, S, Q => cs.length ≤ sizeLine ∧ Q (.d (.str (cutI cs lo hi))) S
  | _, _, _, _, _ => False
def optI : R → Vx → Option (Option Int)
  | .n, _ => some none
  | _, .d (.int i) => some (some i)
  | _, _ => none
/-- the items of a list, a tuple that is walked; what a name lends is walked by the name alone -/
def srcX : Bool → Vx → Hs → (It2 → Hs → Prop) → Prop
  | _, .d (.tup ds), S, K => K ⟨ds, fun _ _ => True, true⟩ S
  | _, .d (.ref a), S, K => ∃ ds, S a = some (.lst ds) ∧ K ⟨ds, fun _ S' => S' a = some (.lst ds), false⟩ S
  | _, .vl ds, S, K => K ⟨ds, fun _ _ => True, false⟩ S
  | true, .bw ds, S, K => K ⟨ds, fun _ _ => True, false⟩ S
  | _, .fz ds, S, K => K ⟨ds, fun _ _ => True, false⟩ S
  | _, _, _, _ => False
/-- pairs of a display -/
def prsOf : List Vx → Option (List (D × D))
  | [] => some []
  | .d k :: .d v :: r => match keyD k, prsOf r with
    | true, some kvs => some ((k, v) :: kvs)
    | _, _ => none
  | _ => none
def dicOf : Cn → Option (List (D × D))
  | .k kvs => some kvs
  | .kf kvs => some kvs
  | _ => none
def isK (c : Cn) : Prop := ∃ kvs, dicOf c = some kvs
/-! texts -/
def joinD (s : List Nat) (zs : List (List Nat)) : List Nat := (Txt.join ⟨s.toArray⟩ (zs.map fun z => ⟨z.toArray⟩)).cps.toList
def splitD (s t : List Nat) : List (List Nat) := (Txt.split ⟨s.toArray⟩ ⟨t.toArray⟩).map fun z => z.cps.toList
def upD (s : List Nat) : List Nat := (Txt.upper ⟨s.toArray⟩).cps.toList
def isStrX : Vx → Prop
  | .d (.str _) => True
  | _ => False
def bmTy : BM → Vx → Hs → Prop
  | .index, x, S => view x S fun c => ∃ ds, c = .l ds
  | .count, x, S => view x S fun c => ∃ ds, c = .l ds
  | .join, x, _ => isStrX x
  | .split, x, _ => isStrX x
def bmD : BM → Vx → Vx → Hs → VK2 → Prop
  | .index, x, y, S, Q => view x S fun c => ∃ ds yd j z, c = .l ds ∧ y = .d yd ∧ flatD yd = true ∧ ds.all flatD = true ∧ ds[j]? = some z ∧ eqB z yd = true ∧ (∀ (m : Nat) z', m < j → ds[m]? = some z' → eqB z' yd = false) ∧ Q (.d (.int (j : Nat))) S
  | .count, x, y, S, Q => view x S fun c => ∃ (ns : List Int) (k : Int), c = .l (ns.map D.int) ∧ y = .d (.int k) ∧ Q (.d (.int (ns.count k : Nat))) S
  | .join, x, y, S, Q => view y S fun c => ∃ s zs, x = .d (.str s) ∧ c = .l (zs.map D.str) ∧ (zs.map List.length).sum + zs.length * s.length ≤ 16777216 ∧ Q (.d (.str (joinD s zs))) S
  | .split, x, y, S, Q => ∃ s t, x = .d (.str s) ∧ y = .d (.str t) ∧ t ≠ [] ∧ s.length + 2 ≤ sizeLine ∧ Q (.vl ((splitD s t).map D.str)) S
/-- data alone -/
def unD : List Vx → Option (List D)
  | [] => some []
  | .d x :: r => match unD r with
    | some ds => some (x :: ds)
    | none => none
  | _ :: _ => none
theorem unD_map : ∀ {xs : List Vx} {ds : List D}, unD xs = some ds → xs = ds.map Vx.d
  | [], _, e => by cases e; rfl
  | x :: r, ds, e => by
    cases x with
    | d y =>
      unfold unD at e
      split at e
      · rename_i es h; cases e; rw [unD_map h]; rfl
      · cases e
    | _ => cases e
/-- a value that is no loan -/
def noLoan : Vx → Bool
  | .d _ => true
  | .vl _ => true
  | .vd _ => true
  | _ => false
section
variable (T : Tbl) (cal : Nat → List Vx → Hs → VK2 → Prop)
mutual
/-- the meaning of an expression: of an argument list all its values; of what is walked: nothing -/
def wpE : R → Sl → Hs → LK2 → Prop
  | .v i, σ, S, Q => ∃ x, σ[i]? = some (some x) ∧ Q [bor x] S
  | .i n, _, S, Q => Q [.d (.int n)] S
  | .s x, _, S, Q => Q [.d (.str x)] S
  | .b x, _, S, Q => Q [.d (.bl x)] S
  | .n, _, S, Q => Q [.d .non] S
  | .g k, _, S, Q => Q [T.glob k] S
  | .o1 o a, σ, S, Q => wpE a σ S (one1 fun x S1 => op1D o x S1 fun z S2 => Q [z] S2)
  | .o2 o a b, σ, S, Q => wpE a σ S (one1 fun x S1 => wpE b σ S1 (one1 fun y S2 => op2D o x y S2 fun z S3 => Q [z] S3))
  | .nil, _, S, Q => Q [] S
  | .cons a r, σ, S, Q => wpE a σ S (one1 fun x S1 => wpE r σ S1 fun xs S2 => Q (bor x :: xs) S2)
  | .consb a r, σ, S, Q => wpE a σ S (one1 fun x S1 => bx x S1 fun d S2 => wpE r σ S2 fun xs S3 => Q (.d d :: xs) S3)
  | .tup as, σ, S, Q => wpE as σ S fun xs S1 => ∃ ds, unD xs = some ds ∧ ds.length ≤ sizeLine ∧ Q [.d (.tup ds)] S1
  | .lst as, σ, S, Q => wpE as σ S fun xs S1 => ∃ ds, unD xs = some ds ∧ ds.length ≤ sizeLine ∧ Q [.vl ds] S1
  | .dct, _, S, Q => Q [.vd []] S
  | .pr k v r, σ, S, Q => wpE k σ S (one1 fun x S1 => wpE v σ S1 (one1 fun y S2 => bx y S2 fun d S3 => wpE r σ S3 fun xs S4 => Q (x :: .d d :: xs) S4))
  | .dctp ps, σ, S, Q => wpE ps σ S fun xs S1 => ∃ kvs, prsOf xs = some kvs ∧ kvs.length ≤ 15 ∧ Q [.vd (mrgD [] kvs)] S1
  | .dpop o k, σ, S, Q => wpE o σ S (one1 fun x S1 => ∃ a kvs0, x = .d (.ref a) ∧ S1 a = some (.dic kvs0) ∧ wpE k σ S1 (one1 fun y S2 => ∃ kvs ky v, y = .d ky ∧ keyD ky = true ∧ S2 a = some (.dic kvs) ∧ dget kvs ky = some v ∧ Q [.d v] (su S2 a (.dic (ddrop kvs ky)))))
  | .get1 o k, σ, S, Q => wpE o σ S (one1 fun x S1 => view x S1 isK ∧ wpE k σ S1 (one1 fun y S2 => view x S2 fun c => ∃ kvs ky, dicOf c = some kvs ∧ y = .d ky ∧ keyD ky = true ∧ Q [.d ((dget kvs ky).getD .non)] S2))
  | .get2 o k d, σ, S, Q => wpE o σ S (one1 fun x S1 => view x S1 isK ∧ wpE k σ S1 (one1 fun y S2 => wpE d σ S2 (one1 fun z S3 => view x S3 fun c => ∃ kvs ky dz, dicOf c = some kvs ∧ y = .d ky ∧ z = .d dz ∧ keyD ky = true ∧ Q [.d ((dget kvs ky).getD dz)] S3)))
  | .and a r, σ, S, Q => wpE a σ S (one1 (tstK fun b S1 => Br b (wpE r σ S1 Q) (Q [.d (.bl false)] S1)))
  | .or a r, σ, S, Q => wpE a σ S (one1 (tstK fun b S1 => Br b (Q [.d (.bl true)] S1) (wpE r σ S1 Q)))
  | .one a, σ, S, Q => wpE a σ S (one1 (tstK fun b S1 => Q [.d (.bl b)] S1))
  | .not a, σ, S, Q => wpE a σ S (one1 (tstK fun b S1 => Q [.d (.bl (!b))] S1))
  | .ife c a b, σ, S, Q => wpE c σ S (one1 (tstK fun k S1 => Br k (wpE a σ S1 (one1 fun x S2 => Q [x] S2)) (wpE b σ S1 (one1 fun x S2 => Q [x] S2))))
  | .chain o o' a b c, σ, S, Q => wpE a σ S (one1 fun x S1 => wpE b σ S1 (one1 fun y S2 => op2D o x y S2 (tstK fun k S3 => Br k
      (wpE c σ S3 (one1 fun z S4 => op2D o' y z S4 (tstK fun k' S5 => Q [.d (.bl k')] S5))) (Q [.d (.bl false)] S3))))
  | .slc a lo hi, σ, S, Q => wpE a σ S (one1 fun x S1 => wpE lo σ S1 (one1 fun l S2 => ∃ l', optI lo l = some l' ∧ wpE hi σ S2 (one1 fun u S3 => ∃ u', optI hi u = some u' ∧ view x S3 fun c => slcC c l' u' S3 fun z S4 => Q [z] S4)))
  | .call f as, σ, S, Q => wpE as σ S fun xs S1 => cal f xs S1 fun r S2 => Q [r] S2
  | .meth f o as, σ, S, Q => wpE o σ S (one1 fun x S1 => ∃ a fs, x = .d (.ref a) ∧ S1 a = some (.ins (T.fcls f) fs) ∧ wpE as σ S1 fun xs S2 => cal f (x :: xs) S2 fun r S3 => Q [r] S3)
  | .make c as, σ, S, Q => wpE as σ S fun xs S1 => ∀ a, S1 a = none → cal (T.cini c) (.d (.ref a) :: xs) (su S1 a (.ins c [])) fun r S2 => r = .d .non ∧ Q [.d (.ref a)] S2
  | .maken c as, σ, S, Q => wpE as σ S fun xs S1 => ∀ a, S1 a = none → cal (T.cini c) (.d (.ref a) :: (xs ++ [.d .non])) (su S1 a (.ins c [])) fun r S2 => r = .d .non ∧ Q [.d (.ref a)] S2
  | .fld o ci k, σ, S, Q => wpE o σ S (one1 fun x S1 => ∃ a fs, x = .d (.ref a) ∧ S1 a = some (.ins ci fs) ∧ ∃ y, fs[k]? = some y ∧ Q [.d y] S1)
  | .hm m o as, σ, S, Q => wpE o σ S (one1 fun x S1 => bx x S1 fun d S1 => ∃ a ds, d = .ref a ∧ S1 a = some (.lst ds) ∧ wpE as σ S1 fun xs S2 => ∃ ob, S2 a = some ob ∧ mutC m ob.cn xs S2 fun c r => ∃ o', c.o = some o' ∧ Q [.d r] (su S2 a o'))
  | .comp tg elt it tst, σ, S, Q => wpI it σ S fun J S1 => compL tg J.ok (fun σ' S' K => wpE elt σ' S' (one1 fun y S2 => bx y S2 K)) (fun σ' S' K => wpE tst σ' S' (one1 (tstK K))) σ J.items [] S1 fun ys S2 => Q [.vl ys] S2
  | .sIt e, σ, S, Q => wpE e σ S (one1 fun x S1 => view x S1 fun c => ∃ ps : List (Int × Int), c = .k (ps.map fun p => (.int p.1, .int p.2)) ∧ ps.length ≤ 1000 ∧ ∀ qs : List (Int × Int), qs.Perm ps → srtP qs → Q [.vl (qs.map pairD)] S1)
  | .rev e, σ, S, Q => wpE e σ S (one1 fun x S1 => view x S1 fun c => ∃ ds, c = .l ds ∧ Q [.vl ds.reverse] S1)
  | .lrg a, σ, S, Q => wpE a σ S (one1 fun x S1 => ∃ n, x = .d (.int n) ∧ n ≤ 1000000 ∧ -(2 ^ 62) < n ∧ Q [.vl (rngD 0 n.toNat)] S1)
  | .bm1 m o a, σ, S, Q => wpE o σ S (one1 fun x S1 => bmTy m x S1 ∧ wpE a σ S1 (one1 fun y S2 => bmD m x y S2 fun z S3 => Q [z] S3))
  | .upper o, σ, S, Q => wpE o σ S (one1 fun x S1 => ∃ s, x = .d (.str s) ∧ s.length ≤ 5000000 ∧ Q [.d (.str (upD s))] S1)
  | .setop k a, σ, S, Q => wpE a σ S (one1 fun x S1 => view x S1 fun c => ∃ ns : List Int, c = .t (ns.map D.int) ∧ ns.length < 64 ∧ ∀ ms : List Int, ms.Nodup → (k = true → ms.Pairwise (· < ·)) → (∀ j, j ∈ ms ↔ j ∈ ns) → Q [if k = true then .vl (ms.map D.int) else .d (.int (ms.length : Nat))] S1)
  | .dctn, _, S, Q => ∀ a, S a = none → Q [.d (.ref a)] (su S a (.dn []))
  | .dctn1 k v, σ, S, Q => wpE k σ S (one1 fun x S1 => wpE v σ S1 (one1 fun y S2 => bx y S2 fun d S3 => ∃ kd, x = .d kd ∧ keyN kd = true ∧ ∀ a, S3 a = none → Q [.d (.ref a)] (su S3 a (.dn [(kd, d)]))))
  | .lockV e, σ, S, Q => wpE e σ S (one1 fun x S1 => ∃ a kvs, x = .d (.ref a) ∧ S1 a = some (.dn kvs) ∧ ∀ h ns, Q [.d (.ref a)] (su S1 a (.fdn kvs h ns)))
  | .lend i e, σ, S, Q => ∃ a ds, σ[i]? = some (some (.d (.ref a))) ∧ S a = some (.lst ds) ∧ wpE e (σ.set i (some (.bw ds))) (mn a S) fun xs S' => xs.all noLoan = true ∧ xs.length = 1 ∧ (S' a = none → Q xs (su S' a (.lst ds)))
  | .lockEN e, σ, S, Q => ∃ a kvs, S a = some (.dn kvs) ∧ ∀ h ns, wpE e σ (su S a (.fdn kvs h ns)) fun xs S' => S' a = some (.fdn kvs h ns) ∧ Q xs (su S' a (.dn kvs))
  | .stp a k, σ, S, Q => wpE a σ S (one1 fun x S1 => wpE k σ S1 (one1 fun y S2 => ∃ z, y = .d (.int z) ∧ (z = 1 ∨ z = -1) ∧ view x S2 fun c => ∃ ds, c = .l ds ∧ Q [.vl (if z = 1 then ds else ds.reverse)] S2))
  | .lockE e, σ, S, Q => ∃ a kvs, S a = some (.dic kvs) ∧ ∀ h, wpE e σ (su S a (.fdc kvs h)) fun xs S' => S' a = some (.fdc kvs h) ∧ Q xs (su S' a (.dic kvs))
  | _, _, _, _ => False
/-- the meaning of what is walked -/
def wpI : R → Sl → Hs → (It2 → Hs → Prop) → Prop
  | .itv i, σ, S, K => ∃ x, σ[i]? = some (some x) ∧ srcX true x S K
  | .ite e, σ, S, K => wpE e σ S (one1 fun x S1 => srcX false x S1 K)
  | .rng a, σ, S, K => wpE a σ S (one1 fun x S1 => ∃ n, x = .d (.int n) ∧ n < 2 ^ 62 ∧ -(2 ^ 62) < n ∧ K ⟨rngD 0 n.toNat, fun _ _ => True, false⟩ S1)
  | .rng2 a b, σ, S, K => wpE a σ S (one1 fun x S1 => wpE b σ S1 (one1 fun y S2 => ∃ m n, x = .d (.int m) ∧ y = .d (.int n) ∧ (m < 2 ^ 62 ∧ -(2 ^ 62) < m ∧ n < 2 ^ 62 ∧ -(2 ^ 62) < n) ∧ K ⟨rngD m (n - m).toNat, fun _ _ => True, false⟩ S2))
  | .enu a, σ, S, K => wpI a σ S fun J S1 => K ⟨enumD 0 J.items, J.ok, false⟩ S1
  | .zip a b, σ, S, K => wpI a σ S fun J S1 => wpI b σ S1 fun J' S2 => J.tu = J'.tu ∧ J.ok σ S2 ∧ K ⟨zipD J.items J'.items, fun σ' S' => J.ok σ' S' ∧ J'.ok σ' S', false⟩ S2
  | .itk e, σ, S, K => wpE e σ S (one1 fun x S1 => ∃ a kvs h, x = .d (.ref a) ∧ S1 a = some (.fdc kvs h) ∧ K ⟨kvs.map Prod.fst, fun _ S' => S' a = some (.fdc kvs h), false⟩ S1)
  | .enuk e, σ, S, K => wpE e σ S (one1 fun x S1 => ∃ a kvs h, x = .d (.ref a) ∧ S1 a = some (.fdc kvs h) ∧ K ⟨enumD 0 (kvs.map Prod.fst), fun _ S' => S' a = some (.fdc kvs h), false⟩ S1)
  | .itkn e, σ, S, K => wpE e σ S (one1 fun x S1 => ∃ a kvs h ns, x = .d (.ref a) ∧ S1 a = some (.fdn kvs h ns) ∧ K ⟨kvs.map Prod.fst, fun _ S' => S' a = some (.fdn kvs h ns), false⟩ S1)
  | .itms e, σ, S, K => wpE e σ S (one1 fun x S1 => ∃ a kvs h, x = .d (.ref a) ∧ S1 a = some (.fdc kvs h) ∧ K ⟨kvs.map fun kv => .tup [kv.1, kv.2], fun _ S' => S' a = some (.fdc kvs h), false⟩ S1)
  | _, _, _, _ => False
end
end
/-! ### statements -/
abbrev SK2 := Sl → Hs → Prop
/-- what may be kept: nothing lent -/
def stor (x : Vx) (P : Prop) : Prop := match x with
  | .bw _ => False
  | .bd _ => False
  | .fz _ => False
  | _ => P
def setF (fs : List D) (k : Nat) (x : D) : List D := if k = fs.length then fs ++ [x] else fs.set k x
/-- a container in a slot, held by nobody else -/
def ownC : Vx → (Cn → Prop) → Prop
  | .vl ds, K => K (.l ds)
  | .vd kvs, K => K (.k kvs)
  | _, _ => False
def dstS : Option Nat → D → Sl → Sl
  | none, _, σ => σ
  | some j, x, σ => σ.set j (some (.d x))
def forL (tg : Tg) (ok : SK2) (body : SK2 → SK2) (nx : SK2) : List D → SK2
  | [], σ, S => ok σ S ∧ nx σ S
  | x :: xs, σ, S => ok σ S ∧ bindT tg x σ fun σ' => body (forL tg ok body nx xs) σ' S
def whlN (tst : Sl → Hs → (Bool → Hs → Prop) → Prop) (body : SK2 → SK2) (nx : SK2) : Nat → SK2
  | 0, _, _ => False
  | n + 1, σ, S => tst σ S fun b S1 => Br b (body (whlN tst body nx n) σ S1) (nx σ S1)
/-- a slot's own list that a for walks is lent from then on -/
def lendX : Vx → Vx
  | .vl ds => .bw ds
  | x => x
def dem : R → Sl → Sl
  | .itv i, σ => match σ[i]? with
    | some (some x) => σ.set i (some (lendX x))
    | _ => σ
  | .enu a, σ => dem a σ
  | .zip a b, σ => dem b (dem a σ)
  | _, σ => σ
section
variable (T : Tbl) (cal : Nat → List Vx → Hs → VK2 → Prop)
/-- the meaning of a statement: nx behind it, rt what is handed back, bk and ct out of a loop's turn -/
def wpS : R → Sl → Hs → (nx : SK2) → (rt : VK2) → (bk ct : SK2) → Prop
  | .seq a r, σ, S, nx, rt, bk, ct => wpS a σ S (fun σ' S' => wpS r σ' S' nx rt bk ct) rt bk ct
  | .skip, σ, S, nx, rt, bk, ct => nx σ S
  | .expr e, σ, S, nx, rt, bk, ct => wpE T cal e σ S (one1 fun _ S1 => nx σ S1)
  | .set i e, σ, S, nx, rt, bk, ct => wpE T cal e σ S (one1 fun x S1 => stor x (nx (σ.set i (some x)) S1))
  | .setT is e, σ, S, nx, rt, bk, ct => wpE T cal e σ S (one1 fun x S1 => view x S1 fun c => ∃ ds, seqOf c = some ds ∧ ∃ σ', bindN is ds σ = some σ' ∧ nx σ' S1)
  | .setNAN i o ci k j e, σ, S, nx, rt, bk, ct => wpE T cal e σ S (one1 fun x S1 => view x S1 fun c => ∃ d0 d1 d2, seqOf c = some [d0, d1, d2] ∧ wpE T cal o (σ.set i (some (.d d0))) S1 (one1 fun y S2 =>
      ∃ a fs, y = .d (.ref a) ∧ S2 a = some (.ins ci fs) ∧ k ≤ fs.length ∧ nx ((σ.set i (some (.d d0))).set j (some (.d d2))) (su S2 a (.ins ci (setF fs k d1)))))
  | .seti o k e, σ, S, nx, rt, bk, ct => wpE T cal e σ S (one1 fun y S1 => bx y S1 fun v S2 => wpE T cal o σ S2 (one1 fun x S3 => wpE T cal k σ S3 (one1 fun z S4 =>
      ∃ a ob kd, x = .d (.ref a) ∧ S4 a = some ob ∧ z = .d kd ∧ mutC .setI ob.cn [.d kd, .d v] S4 fun c _ => ∃ o', c.o = some o' ∧ nx σ (su S4 a o'))))
  | .slcset o e, σ, S, nx, rt, bk, ct => wpE T cal e σ S (one1 fun y S1 => ∃ b, y = .d (.ref b) ∧ wpE T cal o σ S1 (one1 fun x S2 => ∃ a xs ys, x = .d (.ref a) ∧ S2 a = some (.lst xs) ∧ S2 b = some (.lst ys) ∧ a ≠ b ∧ xs.length + ys.length ≤ sizeLine ∧ nx σ (su S2 a (.lst ys))))
  | .oseti i k e, σ, S, nx, rt, bk, ct => wpE T cal e σ S (one1 fun y S1 => bx y S1 fun v S2 => ∃ x, σ[i]? = some (some x) ∧ wpE T cal k σ S2 (one1 fun z S3 =>
      ∃ kd, z = .d kd ∧ ownC x fun c => mutC .setI c [.d kd, .d v] S3 fun c' _ => nx (σ.set i (some c'.v)) S3))
  | .fset o ci k e, σ, S, nx, rt, bk, ct => wpE T cal e σ S (one1 fun y S1 => bx y S1 fun v S2 => wpE T cal o σ S2 (one1 fun x S3 =>
      ∃ a fs, x = .d (.ref a) ∧ S3 a = some (.ins ci fs) ∧ k ≤ fs.length ∧ nx σ (su S3 a (.ins ci (setF fs k v)))))
  | .faug o ci k e, σ, S, nx, rt, bk, ct => wpE T cal o σ S (one1 fun x S1 => ∃ a fs i, x = .d (.ref a) ∧ S1 a = some (.ins ci fs) ∧ fs[k]? = some (.int i) ∧ wpE T cal e σ S1 (one1 fun y S2 =>
      ∃ j fs', y = .d (.int j) ∧ S2 a = some (.ins ci fs') ∧ k < fs'.length ∧ nx σ (su S2 a (.ins ci (setF fs' k (.int (i + j)))))))
  | .iff c a r, σ, S, nx, rt, bk, ct => wpE T cal c σ S (one1 (tstK fun b S1 => Br b (wpS a σ S1 nx rt bk ct) (wpS r σ S1 nx rt bk ct)))
  | .whl c a, σ, S, nx, rt, bk, ct => ∃ n, whlN (fun σ' S' K => wpE T cal c σ' S' (one1 (tstK K))) (fun k σ' S' => wpS a σ' S' k rt nx k) nx n σ S
  | .for tg it a, σ, S, nx, rt, bk, ct => wpI T cal it σ S fun J S1 => forL tg J.ok (fun k σ' S' => wpS a σ' S' k rt nx k) nx J.items (dem it σ) S1
  | .ret e, σ, S, nx, rt, bk, ct => wpE T cal e σ S (one1 fun x S1 => stor x (rt x S1))
  | .retn, σ, S, nx, rt, bk, ct => rt (.d .non) S
  | .retv i, σ, S, nx, rt, bk, ct => ∃ x, σ[i]? = some (some x) ∧ stor x (rt x S)
  | .brk, σ, S, nx, rt, bk, ct => bk σ S
  | .cnt, σ, S, nx, rt, bk, ct => ct σ S
  | .box i, σ, S, nx, rt, bk, ct => ∃ x, σ[i]? = some (some x) ∧ bx x S fun d S1 => nx (σ.set i (some (.d d))) S1
  | .om m i as dst, σ, S, nx, rt, bk, ct => ∃ ds, σ[i]? = some (some (.vl ds)) ∧ wpE T cal as σ S fun xs S1 => mutC m (.l ds) xs S1 fun c' r => nx (dstS dst r (σ.set i (some c'.v))) S1
  | .tryp st, σ, S, nx, rt, bk, ct => wpS st σ S nx rt bk ct
  | .lockN st, σ, S, nx, rt, bk, ct => ∃ a kvs, S a = some (.dn kvs) ∧ ∀ h ns, wpS st σ (su S a (.fdn kvs h ns)) (fun σ' S' => S' a = some (.fdn kvs h ns) ∧ nx σ' (su S' a (.dn kvs))) (fun x S' => S' a = some (.fdn kvs h ns) ∧ rt x (su S' a (.dn kvs)))
      (fun σ' S' => S' a = some (.fdn kvs h ns) ∧ bk σ' (su S' a (.dn kvs))) (fun σ' S' => S' a = some (.fdn kvs h ns) ∧ ct σ' (su S' a (.dn kvs)))
  | .lock st, σ, S, nx, rt, bk, ct => ∃ a kvs, S a = some (.dic kvs) ∧ ∀ h, wpS st σ (su S a (.fdc kvs h)) (fun σ' S' => S' a = some (.fdc kvs h) ∧ nx σ' (su S' a (.dic kvs))) (fun x S' => S' a = some (.fdc kvs h) ∧ rt x (su S' a (.dic kvs)))
      (fun σ' S' => S' a = some (.fdc kvs h) ∧ bk σ' (su S' a (.dic kvs))) (fun σ' S' => S' a = some (.fdc kvs h) ∧ ct σ' (su S' a (.dic kvs)))
  | _, _, _, _, _, _, _ => False
end
def own : Vx → Bool
  | .vl _ => true
  | .vd _ => true
  | _ => false
def startS (nl : Nat) (xs : List Vx) : Sl := xs.map some ++ List.replicate (nl - xs.length) none
/-- the call of the def f, at most n calls within one another -/
def cal (T : Tbl) : Nat → Nat → List Vx → Hs → VK2 → Prop
  | 0, _, _, _, _ => False
  | n + 1, f, xs, S, Q => ∃ F, T.fn f = some F ∧ xs.length = F.np ∧ (xs.all fun x => !(own x)) = true ∧ wpS T (cal T n) F.body (startS F.nl xs) S (fun _ S' => Q (.d .non) S') Q (fun _ _ => False) (fun _ _ => False)

/-! ### monotone -/
section
variable {S : Hs} {K K' : Cn → Prop} {Q Q' : VK2}
theorem view_mono {x : Vx} (h : ∀ c, K c → K' c) (w : view x S K) : view x S K' := by
  cases x with
  | d y =>
    cases y with
    | ref a => obtain ⟨o, e, q⟩ := w; exact ⟨o, e, h _ q⟩
    | str s => exact h _ w
    | tup ds => exact h _ w
    | non => exact w
    | bl b => exact w
    | int i => exact w
  | vl _ => exact h _ w
  | bw _ => exact h _ w
  | fz _ => exact h _ w
  | vd _ => exact h _ w
  | bd _ => exact h _ w
  | st _ => exact h _ w
theorem bx_mono {x : Vx} {K K' : D → Hs → Prop} (h : ∀ d S, K d S → K' d S) (w : bx x S K) : bx x S K' := by
  cases x with
  | d y => exact h _ _ w
  | vl ds => exact fun a ha => h _ _ (w a ha)
  | vd ds => exact fun a ha => h _ _ (w a ha)
  | bw _ => exact w
  | fz _ => exact w
  | bd _ => exact w
  | st _ => exact w
theorem addC_mono {a b : Cn} (h : ∀ x S, Q x S → Q' x S) (w : addC a b S Q) : addC a b S Q' := by
  cases a <;> cases b <;> first | exact ⟨w.1, h _ _ w.2⟩ | exact w
theorem addD_mono {x y : Vx} (h : ∀ x S, Q x S → Q' x S) (w : addD x y S Q) : addD x y S Q' := by
  unfold addD at w ⊢
  split at w
  · exact h _ _ w
  · exact ⟨w.1, h _ _ w.2⟩
  · exact ⟨w.1, h _ _ w.2⟩
  · exact view_mono (fun c => view_mono fun c' => addC_mono h) w
theorem mulC_mono {a : Cn} {k : Int} (h : ∀ x S, Q x S → Q' x S) (w : mulC a k S Q) : mulC a k S Q' := by
  cases a <;> first | exact ⟨w.1, w.2.1, h _ _ w.2.2⟩ | exact w
theorem mulD_mono {x y : Vx} (h : ∀ x S, Q x S → Q' x S) (w : mulD x y S Q) : mulD x y S Q' := by
  unfold mulD at w ⊢
  split at w
  · exact ⟨w.1, h _ _ w.2⟩
  · exact ⟨w.1, h _ _ w.2⟩
  · exact ⟨w.1, view_mono (fun c => mulC_mono h) w.2⟩
  · exact w.elim
theorem intD_mono {f g : Int → Int → VK2 → Hs → Prop} {x y : Vx} (h : ∀ i j, f i j Q S → g i j Q' S) (w : intD f x y S Q) : intD g x y S Q' := by
  unfold intD at w ⊢
  split at w
  · exact h _ _ w
  · exact w.elim
theorem idxC_mono {c : Cn} {k : D} (h : ∀ x S, Q x S → Q' x S) (w : idxC c k S Q) : idxC c k S Q' := by
  unfold idxC at w ⊢
  split at w
  · obtain ⟨y, e, q⟩ := w; exact ⟨y, e, h _ _ q⟩
  · obtain ⟨y, e, q⟩ := w; exact ⟨y, e, h _ _ q⟩
  · obtain ⟨y, e, q⟩ := w; exact ⟨y, e, h _ _ q⟩
  · obtain ⟨z, y, e, q⟩ := w; exact ⟨z, y, e, h _ _ q⟩
  · obtain ⟨z, y, e, q⟩ := w; exact ⟨z, y, e, h _ _ q⟩
  · obtain ⟨z, y, e, q⟩ := w; exact ⟨z, y, e, h _ _ q⟩
  · obtain ⟨z, y, e, q⟩ := w; exact ⟨z, y, e, h _ _ q⟩
  · obtain ⟨z, y, e, q⟩ := w; exact ⟨z, y, e, h _ _ q⟩
  · exact w.elim
theorem idxD_mono {x y : Vx} (h : ∀ x S, Q x S → Q' x S) (w : idxD x y S Q) : idxD x y S Q' := by
  cases y with
  | d k => exact view_mono (fun c => idxC_mono h) w
  | _ => exact w
theorem eqC_mono {a b : Cn} {K K' : Bool → Prop} (h : ∀ b, K b → K' b) (w : eqC a b K) : eqC a b K' := by
  cases a <;> cases b <;> first | exact ⟨w.1, h _ w.2⟩ | exact w
theorem eqD_mono {x y : Vx} {K K' : Bool → Prop} (h : ∀ b, K b → K' b) (w : eqD x y S K) : eqD x y S K' := by
  unfold eqD at w ⊢
  split at w
  · exact view_mono (fun c => view_mono fun c' => eqC_mono h) w
  · exact w.elim
  · exact ⟨w.1, w.2.1, h _ w.2.2⟩
  · exact view_mono (fun c => view_mono fun c' => eqC_mono h) w
theorem eqH_mono {x y : Vx} {K K' : Bool → Prop} (h : ∀ b, K b → K' b) (w : eqH x y S K) : eqH x y S K' := let ⟨p, q, h1, h2, h3, h4, k⟩ := w; ⟨p, q, h1, h2, h3, h4, h _ k⟩
theorem memC_mono {c : Cn} {x : D} {K K' : Bool → Prop} (h : ∀ b, K b → K' b) (w : memC c x K) : memC c x K' := by
  unfold memC at w ⊢
  split at w
  · exact ⟨w.1, w.2.1, h _ w.2.2⟩
  · exact ⟨w.1, w.2.1, h _ w.2.2⟩
  · exact ⟨w.1, h _ w.2⟩
  · exact ⟨w.1, h _ w.2⟩
  · exact ⟨w.1, h _ w.2⟩
  · exact ⟨w.1, h _ w.2⟩
  · exact h _ w
  · exact w.elim
theorem memD_mono {x y : Vx} {K K' : Bool → Prop} (h : ∀ b, K b → K' b) (w : memD x y S K) : memD x y S K' := by
  cases x with
  | d k => exact view_mono (fun c => memC_mono h) w
  | _ => exact w
theorem memH_mono {x y : Vx} {K K' : Bool → Prop} (h : ∀ b, K b → K' b) (w : memH x y S K) : memH x y S K' := by
  cases x with
  | d k => exact view_mono (fun c w => by cases c <;> first | exact ⟨w.1, w.2.1, h _ w.2.2⟩ | exact w) w
  | _ => exact w
theorem op2D_mono {o : O2} {x y : Vx} (h : ∀ x S, Q x S → Q' x S) (w : op2D o x y S Q) : op2D o x y S Q' := by
  cases o with
  | add => exact addD_mono h w
  | mul => exact mulD_mono h w
  | idx => exact idxD_mono h w
  | eq => exact eqD_mono (fun b => h _ _) w
  | ne => exact eqD_mono (fun b => h _ _) w
  | eqh => exact eqH_mono (K := fun b => Q (.d (.bl b)) S) (K' := fun b => Q' (.d (.bl b)) S) (fun b => h _ _) w
  | neh => exact eqH_mono (K := fun b => Q (.d (.bl (!b))) S) (K' := fun b => Q' (.d (.bl (!b))) S) (fun b => h _ _) w
  | is => obtain ⟨b, e, q⟩ := w; exact ⟨b, e, h _ _ q⟩
  | isnt => obtain ⟨b, e, q⟩ := w; exact ⟨b, e, h _ _ q⟩
  | mem => exact memD_mono (fun b => h _ _) w
  | nmem => exact memD_mono (fun b => h _ _) w
  | memh => exact memH_mono (K := fun b => Q (.d (.bl b)) S) (K' := fun b => Q' (.d (.bl b)) S) (fun b => h _ _) w
  | nmemh => exact memH_mono (K := fun b => Q (.d (.bl (!b))) S) (K' := fun b => Q' (.d (.bl (!b))) S) (fun b => h _ _) w
  | fdiv => exact intD_mono (fun i j q => ⟨q.1, h _ _ q.2⟩) w
  | mod => exact intD_mono (fun i j q => ⟨q.1, h _ _ q.2⟩) w
  | pow => exact intD_mono (fun i j q => ⟨q.1, h _ _ q.2⟩) w
  | _ => exact intD_mono (fun i j q => h _ _ q) w
theorem op1D_mono {o : O1} {x : Vx} (h : ∀ x S, Q x S → Q' x S) (w : op1D o x S Q) : op1D o x S Q' := by
  cases o with
  | neg => revert w; show negD _ _ _ → negD _ _ _; unfold negD; split <;> first | exact h _ _ | exact id
  | len => exact view_mono (fun c ⟨n, e, q⟩ => ⟨n, e, h _ _ q⟩) w
  | int => revert w; show toIntD _ _ _ → toIntD _ _ _; unfold toIntD; split <;> first | exact h _ _ | exact id
  | str => revert w; show strD _ _ _ → strD _ _ _; unfold strD; split <;> first | exact fun z => ⟨z.1, h _ _ z.2⟩ | exact id
  | list => exact view_mono (fun c ⟨n, e, q⟩ => ⟨n, e, h _ _ q⟩) w
  | tuple => exact view_mono (fun c ⟨n, e, q⟩ => ⟨n, e, h _ _ q⟩) w
  | sorted => exact view_mono (fun c ⟨n, e, q⟩ => ⟨n, e, fun z p p' => h _ _ (q z p p')⟩) w
  | dict => exact view_mono (fun c ⟨n, e, q⟩ => ⟨n, e, h _ _ q⟩) w
  | sortedP => exact view_mono (fun c ⟨n, e, q⟩ => ⟨n, e, fun z p p' => h _ _ (q z p p')⟩) w
  | dictP => exact view_mono (fun c ⟨n, e, q⟩ => ⟨n, e, h _ _ q⟩) w
  | sortedN => exact view_mono (fun c ⟨n, e, e', q⟩ => ⟨n, e, e', fun z p p' => h _ _ (q z p p')⟩) w
  | sortedDn => exact view_mono (fun c ⟨m, n, e, e', e'', q⟩ => ⟨m, n, e, e', e'', fun z p p' => h _ _ (q z p p')⟩) w
  | listK => exact view_mono (fun c ⟨n, e, q⟩ => ⟨n, e, h _ _ q⟩) w
  | listDn => exact view_mono (fun c ⟨n, e, q⟩ => ⟨n, e, h _ _ q⟩) w
  | lenDn => exact view_mono (fun c ⟨n, e, q⟩ => ⟨n, e, h _ _ q⟩) w
  | sum => exact view_mono (fun c ⟨n, e, q⟩ => ⟨n, e, h _ _ q⟩) w
  | maxl => exact view_mono (fun c ⟨n, e, z, q⟩ => ⟨n, e, z, fun m p p' => h _ _ (q m p p')⟩) w
  | minl => exact view_mono (fun c ⟨n, e, z, q⟩ => ⟨n, e, z, fun m p p' => h _ _ (q m p p')⟩) w
  | all => exact view_mono (fun c ⟨n, m, e, e', q⟩ => ⟨n, m, e, e', h _ _ q⟩) w
  | any => exact view_mono (fun c ⟨n, m, e, e', q⟩ => ⟨n, m, e, e', h _ _ q⟩) w
  | isi t => revert w; show isiD _ _ _ _ → isiD _ _ _ _; unfold isiD; split <;> first | exact fun ⟨b, e, q⟩ => ⟨b, e, h _ _ q⟩ | exact h _ _ | exact id
theorem mutC_mono {m : M} {c : Cn} {xs : List Vx} {K K' : Cn → D → Prop} (h : ∀ c r, K c r → K' c r) (w : mutC m c xs S K) : mutC m c xs S K' := by
  unfold mutC at w ⊢
  split at w
  · exact ⟨w.1, h _ _ w.2⟩
  · obtain ⟨y, e, q⟩ := w; exact ⟨y, e, h _ _ q⟩
  · obtain ⟨y, e, q⟩ := w; exact ⟨y, e, h _ _ q⟩
  · exact ⟨w.1, h _ _ w.2⟩
  · exact ⟨w.1, h _ _ w.2⟩
  · exact ⟨w.1, w.2.1, h _ _ w.2.2⟩
  · exact ⟨w.1, w.2.1, h _ _ w.2.2⟩
  · exact ⟨w.1, w.2.1, h _ _ w.2.2⟩
  · exact view_mono (fun c ⟨n, e, z, q⟩ => ⟨n, e, z, h _ _ q⟩) w
  · exact h _ _ w
  · obtain ⟨ns, j, e1, e2, e3, q⟩ := w; exact ⟨ns, j, e1, e2, e3, h _ _ q⟩
  · exact w.elim
theorem slcC_mono {c : Cn} {a b : Option Int} (h : ∀ x S, Q x S → Q' x S) (w : slcC c a b S Q) : slcC c a b S Q' := by
  cases c <;> first | exact h _ _ w | exact ⟨w.1, h _ _ w.2⟩ | exact w
theorem bmD_mono {m : BM} {x y : Vx} {Q Q' : VK2} (h : ∀ x S, Q x S → Q' x S) (w : bmD m x y S Q) : bmD m x y S Q' := by
  cases m with
  | index => exact view_mono (fun c ⟨ds, yd, j, z, e1, e2, e3, e4, e5, e6, e7, q⟩ => ⟨ds, yd, j, z, e1, e2, e3, e4, e5, e6, e7, h _ _ q⟩) w
  | count => exact view_mono (fun c ⟨ns, k, e1, e2, q⟩ => ⟨ns, k, e1, e2, h _ _ q⟩) w
  | join => exact view_mono (fun c ⟨s, zs, e1, e2, e3, q⟩ => ⟨s, zs, e1, e2, e3, h _ _ q⟩) w
  | split => obtain ⟨s, t, e1, e2, e3, e4, q⟩ := w; exact ⟨s, t, e1, e2, e3, e4, h _ _ q⟩
theorem one1_mono {xs : List Vx} (h : ∀ x S, Q x S → Q' x S) (w : one1 Q xs S) : one1 Q' xs S := by
  unfold one1 at w ⊢
  split at w
  · exact h _ _ w
  · exact w.elim
theorem tstK_mono {x : Vx} {K K' : Bool → Hs → Prop} (h : ∀ b S, K b S → K' b S) (w : tstK K x S) : tstK K' x S := by
  unfold tstK at w ⊢
  split at w
  · exact h _ _ w
  · exact w.elim
theorem Br.mono {b : Bool} {A A' B B' : Prop} (h : A → A') (h' : B → B') (w : Br b A B) : Br b A' B' := ⟨fun e => h (w.t e), fun e => h' (w.f e)⟩
theorem bindT_mono {tg : Tg} {x : D} {σ : Sl} {K K' : Sl → Prop} (h : ∀ σ, K σ → K' σ) (w : bindT tg x σ K) : bindT tg x σ K' := by
  unfold bindT at w ⊢
  split at w
  · exact h _ w
  · obtain ⟨σ', e, q⟩ := w; exact ⟨σ', e, h _ q⟩
  · exact w.elim
theorem ownC_mono {x : Vx} (h : ∀ c, K c → K' c) (w : ownC x K) : ownC x K' := by
  cases x <;> first | exact h _ w | exact w
theorem stor_mono {x : Vx} {P P' : Prop} (h : P → P') (w : stor x P) : stor x P' := by
  cases x <;> first | exact h w | exact w
theorem compL_mono {tg : Tg} {ok : Sl → Hs → Prop} {e e' : Sl → Hs → (D → Hs → Prop) → Prop} {t t' : Sl → Hs → (Bool → Hs → Prop) → Prop} {σ : Sl} {K K' : List D → Hs → Prop}
    (he : ∀ σ S K K', (∀ d S, K d S → K' d S) → e σ S K → e' σ S K') (ht : ∀ σ S K K', (∀ d S, K d S → K' d S) → t σ S K → t' σ S K') (h : ∀ a S, K a S → K' a S) :
    ∀ (xs acc : List D) (S : Hs), compL tg ok e t σ xs acc S K → compL tg ok e' t' σ xs acc S K'
  | [], _, _, w => ⟨w.1, h _ _ w.2⟩
  | x :: xs, acc, S, w => ⟨w.1, bindT_mono (fun σ' q => ht _ _ _ _ (fun b S1 r => Br.mono (he _ _ _ _ fun y S2 z => ⟨z.1, compL_mono he ht h xs _ _ z.2⟩) (compL_mono he ht h xs _ _) r) q) w.2⟩
end
theorem srcX_mono {l : Bool} {x : Vx} {S : Hs} {K K' : It2 → Hs → Prop} (h : ∀ J S, K J S → K' J S) (w : srcX l x S K) : srcX l x S K' := by
  unfold srcX at w ⊢
  split at w
  · exact h _ _ w
  · obtain ⟨ds, e, q⟩ := w; exact ⟨ds, e, h _ _ q⟩
  · exact h _ _ w
  · exact h _ _ w
  · exact h _ _ w
  · exact w.elim
def CalMono (c : Nat → List Vx → Hs → VK2 → Prop) : Prop := ∀ f xs S (Q Q' : VK2), (∀ x S, Q x S → Q' x S) → c f xs S Q → c f xs S Q'
section
variable {T : Tbl} {c : Nat → List Vx → Hs → VK2 → Prop}
theorem wp_mono (hc : CalMono c) (r : R) : (∀ σ S (Q Q' : LK2), (∀ x S, Q x S → Q' x S) → wpE T c r σ S Q → wpE T c r σ S Q') ∧ (∀ σ S (K K' : It2 → Hs → Prop), (∀ x S, K x S → K' x S) → wpI T c r σ S K → wpI T c r σ S K') := by
  induction r with
  | v i => exact ⟨fun σ S Q Q' h ⟨x, e, q⟩ => ⟨x, e, h _ _ q⟩, fun σ S K K' h w => w⟩
  | i n => exact ⟨fun σ S Q Q' h w => h _ _ w, fun σ S K K' h w => w⟩
  | s n => exact ⟨fun σ S Q Q' h w => h _ _ w, fun σ S K K' h w => w⟩
  | b n => exact ⟨fun σ S Q Q' h w => h _ _ w, fun σ S K K' h w => w⟩
  | n => exact ⟨fun σ S Q Q' h w => h _ _ w, fun σ S K K' h w => w⟩
  | g k => exact ⟨fun σ S Q Q' h w => h _ _ w, fun σ S K K' h w => w⟩
  | nil => exact ⟨fun σ S Q Q' h w => h _ _ w, fun σ S K K' h w => w⟩
  | dct => exact ⟨fun σ S Q Q' h w => h _ _ w, fun σ S K K' h w => w⟩
  | o1 o a ih => exact ⟨fun σ S Q Q' h w => ih.1 _ _ _ _ (fun xs S1 => one1_mono fun x S => op1D_mono fun z S => h _ _) w, fun σ S K K' h w => w⟩
  | o2 o a b iha ihb => exact ⟨fun σ S Q Q' h w => iha.1 _ _ _ _ (fun xs S1 => one1_mono fun x S => ihb.1 _ _ _ _ (fun ys S2 => one1_mono fun y S => op2D_mono fun z S => h _ _)) w, fun σ S K K' h w => w⟩
  | cons a b iha ihb => exact ⟨fun σ S Q Q' h w => iha.1 _ _ _ _ (fun xs S1 => one1_mono fun x S => ihb.1 _ _ _ _ (fun ys S2 => h _ _)) w, fun σ S K K' h w => w⟩
  | consb a b iha ihb => exact ⟨fun σ S Q Q' h w => iha.1 _ _ _ _ (fun xs S1 => one1_mono fun x S => bx_mono fun d S => ihb.1 _ _ _ _ (fun ys S2 => h _ _)) w, fun σ S K K' h w => w⟩
  | tup as ih => exact ⟨fun σ S Q Q' h w => ih.1 _ _ _ _ (fun xs S1 ⟨ds, e, z, q⟩ => ⟨ds, e, z, h _ _ q⟩) w, fun σ S K K' h w => w⟩
  | lst as ih => exact ⟨fun σ S Q Q' h w => ih.1 _ _ _ _ (fun xs S1 ⟨ds, e, z, q⟩ => ⟨ds, e, z, h _ _ q⟩) w, fun σ S K K' h w => w⟩
  | pr k v r ihk ihv ihr => exact ⟨fun σ S Q Q' h w => ihk.1 _ _ _ _ (fun xs S1 => one1_mono fun x S => ihv.1 _ _ _ _ (fun ys S2 => one1_mono fun y S => bx_mono fun d S => ihr.1 _ _ _ _ (fun ys S2 => h _ _))) w, fun σ S K K' h w => w⟩
  | dctp as ih => exact ⟨fun σ S Q Q' h w => ih.1 _ _ _ _ (fun xs S1 ⟨ds, e, z, q⟩ => ⟨ds, e, z, h _ _ q⟩) w, fun σ S K K' h w => w⟩
  | dpop o k iho ihk => exact ⟨fun σ S Q Q' h w => iho.1 _ _ _ _ (fun xs S1 => one1_mono fun x S ⟨a, kvs0, e1, e2, q⟩ => ⟨a, kvs0, e1, e2, ihk.1 _ _ _ _ (fun ys S2 => one1_mono fun y S ⟨kvs, ky, v, e1, e2, e3, e4, q⟩ => ⟨kvs, ky, v, e1, e2, e3, e4, h _ _ q⟩) q⟩) w, fun σ S K K' h w => w⟩
  | get1 o k iho ihk => exact ⟨fun σ S Q Q' h w => iho.1 _ _ _ _ (fun xs S1 => one1_mono fun x S q => ⟨q.1, ihk.1 _ _ _ _ (fun ys S2 => one1_mono fun y S => view_mono fun c ⟨kvs, ky, e1, e2, e3, q⟩ => ⟨kvs, ky, e1, e2, e3, h _ _ q⟩) q.2⟩) w, fun σ S K K' h w => w⟩
  | get2 o k d iho ihk ihd => exact ⟨fun σ S Q Q' h w => iho.1 _ _ _ _ (fun xs S1 => one1_mono fun x S q => ⟨q.1, ihk.1 _ _ _ _ (fun ys S2 => one1_mono fun y S => ihd.1 _ _ _ _ (fun zs S3 => one1_mono fun z S => view_mono fun c ⟨kvs, ky, dz, e1, e2, e3, e4, q⟩ => ⟨kvs, ky, dz, e1, e2, e3, e4, h _ _ q⟩)) q.2⟩) w, fun σ S K K' h w => w⟩
  | and a b iha ihb => exact ⟨fun σ S Q Q' h w => iha.1 _ _ _ _ (fun xs S1 => one1_mono fun x S => tstK_mono fun b S => Br.mono (ihb.1 _ _ _ _ h) (h _ _)) w, fun σ S K K' h w => w⟩
  | or a b iha ihb => exact ⟨fun σ S Q Q' h w => iha.1 _ _ _ _ (fun xs S1 => one1_mono fun x S => tstK_mono fun b S => Br.mono (h _ _) (ihb.1 _ _ _ _ h)) w, fun σ S K K' h w => w⟩
  | one a ih => exact ⟨fun σ S Q Q' h w => ih.1 _ _ _ _ (fun xs S1 => one1_mono fun x S => tstK_mono fun b S => h _ _) w, fun σ S K K' h w => w⟩
  | not a ih => exact ⟨fun σ S Q Q' h w => ih.1 _ _ _ _ (fun xs S1 => one1_mono fun x S => tstK_mono fun b S => h _ _) w, fun σ S K K' h w => w⟩
  | ife k a b ihk iha ihb => exact ⟨fun σ S Q Q' h w => ihk.1 _ _ _ _ (fun xs S1 => one1_mono fun x S => tstK_mono fun b S => Br.mono (iha.1 _ _ _ _ fun xs S => one1_mono fun x S => h _ _) (ihb.1 _ _ _ _ fun xs S => one1_mono fun x S => h _ _)) w, fun σ S K K' h w => w⟩
  | chain o o' a b k iha ihb ihk => exact ⟨fun σ S Q Q' h w => iha.1 _ _ _ _ (fun xs S1 => one1_mono fun x S => ihb.1 _ _ _ _ (fun ys S2 => one1_mono fun y S => op2D_mono fun z S => tstK_mono fun b S => Br.mono
      (ihk.1 _ _ _ _ fun ys S2 => one1_mono fun y S => op2D_mono fun z S => tstK_mono fun b S => h _ _) (h _ _))) w, fun σ S K K' h w => w⟩
  | slc a b k iha ihb ihk => exact ⟨fun σ S Q Q' h w => iha.1 _ _ _ _ (fun xs S1 => one1_mono fun x S => ihb.1 _ _ _ _ (fun ys S2 => one1_mono fun y S ⟨l, e, q⟩ => ⟨l, e, ihk.1 _ _ _ _ (fun ys S2 => one1_mono fun z S ⟨u, e', q⟩ => ⟨u, e', view_mono (fun c => slcC_mono fun x S => h _ _) q⟩) q⟩)) w, fun σ S K K' h w => w⟩
  | call f as ih => exact ⟨fun σ S Q Q' h w => ih.1 _ _ _ _ (fun xs S1 => hc _ _ _ _ _ fun x S => h _ _) w, fun σ S K K' h w => w⟩
  | meth f o as iho ih => exact ⟨fun σ S Q Q' h w => iho.1 _ _ _ _ (fun xs S1 => one1_mono fun x S ⟨a, fs, e, e', q⟩ => ⟨a, fs, e, e', ih.1 _ _ _ _ (fun xs S1 => hc _ _ _ _ _ fun x S => h _ _) q⟩) w, fun σ S K K' h w => w⟩
  | make k as ih => exact ⟨fun σ S Q Q' h w => ih.1 _ _ _ _ (fun xs S1 q a ha => hc _ _ _ _ _ (fun x S z => ⟨z.1, h _ _ z.2⟩) (q a ha)) w, fun σ S K K' h w => w⟩
  | maken k as ih => exact ⟨fun σ S Q Q' h w => ih.1 _ _ _ _ (fun xs S1 q a ha => hc _ _ _ _ _ (fun x S z => ⟨z.1, h _ _ z.2⟩) (q a ha)) w, fun σ S K K' h w => w⟩
  | fld o ci k ih => exact ⟨fun σ S Q Q' h w => ih.1 _ _ _ _ (fun xs S1 => one1_mono fun x S ⟨a, fs, e, e', y, z, q⟩ => ⟨a, fs, e, e', y, z, h _ _ q⟩) w, fun σ S K K' h w => w⟩
  | hm m o as iho ih => exact ⟨fun σ S Q Q' h w => iho.1 _ _ _ _ (fun xs S1 => one1_mono fun x S => bx_mono fun d S ⟨a, ds, e, e', q⟩ => ⟨a, ds, e, e', ih.1 _ _ _ _ (fun xs S ⟨ob, z, q⟩ => ⟨ob, z, mutC_mono (fun c r ⟨o', z, q⟩ => ⟨o', z, h _ _ q⟩) q⟩) q⟩) w, fun σ S K K' h w => w⟩
  | comp tg elt it tst ihe ihi iht => exact ⟨fun σ S Q Q' h w => ihi.2 _ _ _ _ (fun J S => compL_mono (fun σ S K K' h => ihe.1 σ S (one1 fun y S2 => bx y S2 K) (one1 fun y S2 => bx y S2 K') fun xs S => one1_mono fun x S => bx_mono h) (fun σ S K K' h => iht.1 σ S (one1 (tstK K)) (one1 (tstK K')) fun xs S => one1_mono fun x S => tstK_mono h) (fun a S => h [.vl a] S) _ _ _) w, fun σ S K K' h w => w⟩
  | itv i => exact ⟨fun σ S Q Q' h w => w, fun σ S K K' h ⟨x, e, w⟩ => ⟨x, e, srcX_mono h w⟩⟩
  | ite e ih => exact ⟨fun σ S Q Q' h w => w, fun σ S K K' h w => ih.1 _ _ _ _ (fun xs S => one1_mono fun x S => srcX_mono h) w⟩
  | rng a ih => exact ⟨fun σ S Q Q' h w => w, fun σ S K K' h w => ih.1 _ _ _ _ (fun xs S => one1_mono fun x S ⟨n, e, z, z', q⟩ => ⟨n, e, z, z', h _ _ q⟩) w⟩
  | rng2 a b iha ihb => exact ⟨fun σ S Q Q' h w => w, fun σ S K K' h w => iha.1 _ _ _ _ (fun xs S => one1_mono fun x S => ihb.1 _ _ _ _ fun xs S => one1_mono fun x S ⟨n, m, e, e', z, q⟩ => ⟨n, m, e, e', z, h _ _ q⟩) w⟩
  | enu a ih => exact ⟨fun σ S Q Q' h w => w, fun σ S K K' h w => ih.2 _ _ _ _ (fun J S => h _ _) w⟩
  | sIt e ih => exact ⟨fun σ S Q Q' h w => ih.1 _ _ _ _ (fun xs S1 => one1_mono fun x S => view_mono fun c ⟨ps, e, z, q⟩ => ⟨ps, e, z, fun qs p p' => h _ _ (q qs p p')⟩) w, fun σ S K K' h w => w⟩
  | rev e ih => exact ⟨fun σ S Q Q' h w => ih.1 _ _ _ _ (fun xs S1 => one1_mono fun x S => view_mono fun c ⟨ps, e, q⟩ => ⟨ps, e, h _ _ q⟩) w, fun σ S K K' h w => w⟩
  | lrg e ih => exact ⟨fun σ S Q Q' h w => ih.1 _ _ _ _ (fun xs S1 => one1_mono fun x S ⟨n, e, z1, z2, q⟩ => ⟨n, e, z1, z2, h _ _ q⟩) w, fun σ S K K' h w => w⟩
  | bm1 m o a iho iha => exact ⟨fun σ S Q Q' h w => iho.1 _ _ _ _ (fun xs S1 => one1_mono fun x S ⟨ty, q⟩ => ⟨ty, iha.1 _ _ _ _ (fun ys S2 => one1_mono fun y S => bmD_mono fun z S3 => h _ _) q⟩) w, fun σ S K K' h w => w⟩
  | upper o ih => exact ⟨fun σ S Q Q' h w => ih.1 _ _ _ _ (fun xs S1 => one1_mono fun x S ⟨s, e, z, q⟩ => ⟨s, e, z, h _ _ q⟩) w, fun σ S K K' h w => w⟩
  | setop k a ih => exact ⟨fun σ S Q Q' h w => ih.1 _ _ _ _ (fun xs S1 => one1_mono fun x S => view_mono fun c ⟨ns, e, z1, q⟩ => ⟨ns, e, z1, fun ms p1 p2 p3 => h _ _ (q ms p1 p2 p3)⟩) w, fun σ S K K' h w => w⟩
  | dctn => exact ⟨fun σ S Q Q' h w a ha => h _ _ (w a ha), fun σ S K K' h w => w⟩
  | lend i e ih => exact ⟨fun σ S Q Q' h ⟨a, ds, e1, e2, w⟩ => ⟨a, ds, e1, e2, ih.1 _ _ _ _ (fun xs S q => ⟨q.1, q.2.1, fun z => h _ _ (q.2.2 z)⟩) w⟩, fun σ S K K' h w => w⟩
  | lockEN e ih => exact ⟨fun σ S Q Q' h ⟨a, kvs, e1, w⟩ => ⟨a, kvs, e1, fun z ns => ih.1 _ _ _ _ (fun xs S q => ⟨q.1, h _ _ q.2⟩) (w z ns)⟩, fun σ S K K' h w => w⟩
  | dctn1 k v ihk ihv => exact ⟨fun σ S Q Q' h w => ihk.1 _ _ _ _ (fun xs S1 => one1_mono fun x S => ihv.1 _ _ _ _ (fun ys S2 => one1_mono fun y S => bx_mono fun d S3 ⟨kd, e1, e2, q⟩ => ⟨kd, e1, e2, fun a ha => h _ _ (q a ha)⟩)) w, fun σ S K K' h w => w⟩
  | lockV e ih => exact ⟨fun σ S Q Q' h w => ih.1 _ _ _ _ (fun xs S1 => one1_mono fun x S ⟨a, kvs, e1, e2, q⟩ => ⟨a, kvs, e1, e2, fun z ns => h _ _ (q z ns)⟩) w, fun σ S K K' h w => w⟩
  | stp a k iha ihk => exact ⟨fun σ S Q Q' h w => iha.1 _ _ _ _ (fun xs S1 => one1_mono fun x S => ihk.1 _ _ _ _ fun ys S2 => one1_mono fun y S ⟨z, e, hz, q⟩ => ⟨z, e, hz, view_mono (fun c ⟨ds, e, q⟩ => ⟨ds, e, h _ _ q⟩) q⟩) w, fun σ S K K' h w => w⟩
  | lockE e ih => exact ⟨fun σ S Q Q' h ⟨a, kvs, e1, w⟩ => ⟨a, kvs, e1, fun z => ih.1 _ _ _ _ (fun xs S q => ⟨q.1, h _ _ q.2⟩) (w z)⟩, fun σ S K K' h w => w⟩
  | itk e ih => exact ⟨fun σ S Q Q' h w => w, fun σ S K K' h w => ih.1 _ _ _ _ (fun xs S => one1_mono fun x S ⟨a, kvs, z, e1, e2, q⟩ => ⟨a, kvs, z, e1, e2, h _ _ q⟩) w⟩
  | enuk e ih => exact ⟨fun σ S Q Q' h w => w, fun σ S K K' h w => ih.1 _ _ _ _ (fun xs S => one1_mono fun x S ⟨a, kvs, z, e1, e2, q⟩ => ⟨a, kvs, z, e1, e2, h _ _ q⟩) w⟩
  | itkn e ih => exact ⟨fun σ S Q Q' h w => w, fun σ S K K' h w => ih.1 _ _ _ _ (fun xs S => one1_mono fun x S ⟨a, kvs, z, ns, e1, e2, q⟩ => ⟨a, kvs, z, ns, e1, e2, h _ _ q⟩) w⟩
  | itms e ih => exact ⟨fun σ S Q Q' h w => w, fun σ S K K' h w => ih.1 _ _ _ _ (fun xs S => one1_mono fun x S ⟨a, kvs, z, e1, e2, q⟩ => ⟨a, kvs, z, e1, e2, h _ _ q⟩) w⟩
  | zip a b iha ihb => exact ⟨fun σ S Q Q' h w => w, fun σ S K K' h w => iha.2 _ _ _ _ (fun J S => ihb.2 _ _ _ _ fun J S q => ⟨q.1, q.2.1, h _ _ q.2.2⟩) w⟩
  | _ => exact ⟨fun σ S Q Q' h w => w, fun σ S K K' h w => w⟩
theorem wpE_mono (hc : CalMono c) {r : R} {σ : Sl} {S : Hs} {Q Q' : LK2} (w : wpE T c r σ S Q) (h : ∀ x S, Q x S → Q' x S) : wpE T c r σ S Q' := (wp_mono hc r).1 _ _ _ _ h w
theorem wpI_mono (hc : CalMono c) {r : R} {σ : Sl} {S : Hs} {Q Q' : It2 → Hs → Prop} (w : wpI T c r σ S Q) (h : ∀ x S, Q x S → Q' x S) : wpI T c r σ S Q' := (wp_mono hc r).2 _ _ _ _ h w
theorem forL_mono {tg : Tg} {ok : Sl → Hs → Prop} {b b' : (Sl → Hs → Prop) → Sl → Hs → Prop} {nx nx' : Sl → Hs → Prop} (hb : ∀ k k' σ S, (∀ σ S, k σ S → k' σ S) → b k σ S → b' k' σ S) (hn : ∀ σ S, nx σ S → nx' σ S) :
    ∀ (xs : List D) (σ : Sl) (S : Hs), forL tg ok b nx xs σ S → forL tg ok b' nx' xs σ S
  | [], _, _, w => ⟨w.1, hn _ _ w.2⟩
  | x :: xs, σ, S, w => ⟨w.1, bindT_mono (fun σ' => hb _ _ _ _ (forL_mono hb hn xs)) w.2⟩
theorem whlN_mono {t t' : Sl → Hs → (Bool → Hs → Prop) → Prop} {b b' : (Sl → Hs → Prop) → Sl → Hs → Prop} {nx nx' : Sl → Hs → Prop} (ht : ∀ σ S K K', (∀ b S, K b S → K' b S) → t σ S K → t' σ S K')
    (hb : ∀ k k' σ S, (∀ σ S, k σ S → k' σ S) → b k σ S → b' k' σ S) (hn : ∀ σ S, nx σ S → nx' σ S) : ∀ (n : Nat) (σ : Sl) (S : Hs), whlN t b nx n σ S → whlN t' b' nx' n σ S
  | 0, _, _, w => w
  | n + 1, σ, S, w => ht _ _ _ _ (fun b S => Br.mono (hb _ _ _ _ (whlN_mono ht hb hn n)) (hn _ _)) w
theorem wpS_mono (hc : CalMono c) {r : R} : ∀ {σ : Sl} {S : Hs} {nx nx' : SK2} {rt rt' : VK2} {bk bk' ct ct' : SK2}, (∀ σ S, nx σ S → nx' σ S) → (∀ x S, rt x S → rt' x S) → (∀ σ S, bk σ S → bk' σ S) → (∀ σ S, ct σ S → ct' σ S) →
    wpS T c r σ S nx rt bk ct → wpS T c r σ S nx' rt' bk' ct' := by
  induction r with
  | seq a r iha ihr => exact fun h1 h2 h3 h4 w => iha (fun σ S => ihr h1 h2 h3 h4) h2 h3 h4 w
  | skip => exact fun h1 h2 h3 h4 w => h1 _ _ w
  | expr e => exact fun h1 h2 h3 h4 w => wpE_mono hc w fun xs S => one1_mono fun x S => h1 _ _
  | set i e => exact fun h1 h2 h3 h4 w => wpE_mono hc w fun xs S => one1_mono fun x S => stor_mono (h1 _ _)
  | setT is e => exact fun h1 h2 h3 h4 w => wpE_mono hc w fun xs S => one1_mono fun x S => view_mono fun c ⟨ds, e, σ', e', q⟩ => ⟨ds, e, σ', e', h1 _ _ q⟩
  | seti o k e => exact fun h1 h2 h3 h4 w => wpE_mono hc w fun xs S => one1_mono fun x S => bx_mono fun d S q => wpE_mono hc q fun xs S => one1_mono fun x S q => wpE_mono hc q fun xs S => one1_mono fun x S ⟨a, ob, kd, e1, e2, e3, q⟩ =>
      ⟨a, ob, kd, e1, e2, e3, mutC_mono (fun c r ⟨o', z, q⟩ => ⟨o', z, h1 _ _ q⟩) q⟩
  | oseti i k e => exact fun h1 h2 h3 h4 w => wpE_mono hc w fun xs S => one1_mono fun x S => bx_mono fun d S ⟨x, e1, q⟩ => ⟨x, e1, wpE_mono hc q fun xs S => one1_mono fun x S ⟨kd, e2, q⟩ =>
      ⟨kd, e2, ownC_mono (fun c => mutC_mono fun c r => h1 _ _) q⟩⟩
  | slcset o e => exact fun h1 h2 h3 h4 w => wpE_mono hc w fun xs S => one1_mono fun x S ⟨b, e1, q⟩ => ⟨b, e1, wpE_mono hc q fun xs S => one1_mono fun x S ⟨a, xs, ys, e1, e2, e3, e4, e5, q⟩ => ⟨a, xs, ys, e1, e2, e3, e4, e5, h1 _ _ q⟩⟩
  | setNAN i o ci k j e => exact fun h1 h2 h3 h4 w => wpE_mono hc w fun xs S => one1_mono fun x S => view_mono fun c ⟨d0, d1, d2, e1, q⟩ => ⟨d0, d1, d2, e1, wpE_mono hc q fun xs S => one1_mono fun x S ⟨a, fs, e1, e2, e3, q⟩ => ⟨a, fs, e1, e2, e3, h1 _ _ q⟩⟩
  | fset o ci k e => exact fun h1 h2 h3 h4 w => wpE_mono hc w fun xs S => one1_mono fun x S => bx_mono fun d S q => wpE_mono hc q fun xs S => one1_mono fun x S ⟨a, fs, e1, e2, e3, q⟩ => ⟨a, fs, e1, e2, e3, h1 _ _ q⟩
  | faug o ci k e => exact fun h1 h2 h3 h4 w => wpE_mono hc w fun xs S => one1_mono fun x S ⟨a, fs, i, e1, e2, e3, q⟩ => ⟨a, fs, i, e1, e2, e3, wpE_mono hc q fun xs S => one1_mono fun x S ⟨j, fs', e1, e2, e3, q⟩ => ⟨j, fs', e1, e2, e3, h1 _ _ q⟩⟩
  | iff k a r _ iha ihr => exact fun h1 h2 h3 h4 w => wpE_mono hc w fun xs S => one1_mono fun x S => tstK_mono fun b S => Br.mono (iha h1 h2 h3 h4) (ihr h1 h2 h3 h4)
  | whl k a _ iha => exact fun h1 h2 h3 h4 ⟨n, w⟩ => ⟨n, whlN_mono (fun σ S K K' h (q : wpE T c k σ S (one1 (tstK K))) => (wpE_mono hc q (fun xs S => one1_mono fun x S => tstK_mono h) : wpE T c k σ S (one1 (tstK K')))) (fun k k' σ S h => iha (σ := σ) (S := S) h h2 h1 h) h1 n _ _ w⟩
  | «for» tg it a _ iha => exact fun h1 h2 h3 h4 w => wpI_mono hc w fun J S => forL_mono (fun k k' σ S h => iha (σ := σ) (S := S) h h2 h1 h) h1 _ _ _
  | ret e => exact fun h1 h2 h3 h4 w => wpE_mono hc w fun xs S => one1_mono fun x S => stor_mono (h2 _ _)
  | retn => exact fun h1 h2 h3 h4 w => h2 _ _ w
  | retv i => exact fun h1 h2 h3 h4 ⟨x, e, w⟩ => ⟨x, e, stor_mono (h2 _ _) w⟩
  | brk => exact fun h1 h2 h3 h4 w => h3 _ _ w
  | cnt => exact fun h1 h2 h3 h4 w => h4 _ _ w
  | box i => exact fun h1 h2 h3 h4 ⟨x, e, w⟩ => ⟨x, e, bx_mono (fun d S => h1 _ _) w⟩
  | tryp st ih => exact fun h1 h2 h3 h4 w => ih h1 h2 h3 h4 w
  | lockN st ih => exact fun h1 h2 h3 h4 ⟨a, kvs, e, w⟩ => ⟨a, kvs, e, fun z ns => ih (fun σ S q => ⟨q.1, h1 _ _ q.2⟩) (fun x S q => ⟨q.1, h2 _ _ q.2⟩) (fun σ S q => ⟨q.1, h3 _ _ q.2⟩) (fun σ S q => ⟨q.1, h4 _ _ q.2⟩) (w z ns)⟩
  | lock st ih => exact fun h1 h2 h3 h4 ⟨a, kvs, e, w⟩ => ⟨a, kvs, e, fun z => ih (fun σ S q => ⟨q.1, h1 _ _ q.2⟩) (fun x S q => ⟨q.1, h2 _ _ q.2⟩) (fun σ S q => ⟨q.1, h3 _ _ q.2⟩) (fun σ S q => ⟨q.1, h4 _ _ q.2⟩) (w z)⟩
  | om m i as dst => exact fun h1 h2 h3 h4 ⟨x, e, w⟩ => ⟨x, e, wpE_mono hc w fun xs S q => mutC_mono (fun c r => h1 _ _) q⟩
  | _ => exact fun h1 h2 h3 h4 w => w
end
theorem cal_mono {T : Tbl} : ∀ n, CalMono (cal T n)
  | 0 => fun _ _ _ _ _ _ w => w
  | n + 1 => fun f xs S Q Q' h ⟨F, e, l, o, w⟩ => ⟨F, e, l, o, wpS_mono (cal_mono n) (fun σ S => h _ _) h (fun _ _ z => z) (fun _ _ z => z) w⟩
end DL

/-! DL2: how data stand in the hand layer's heap; the operators are sound. -/
namespace DL
open PySem L2 PySem.Spec PyProof.Rows
abbrev Frag := PySem.W.Frag
abbrev sv (s : List Nat) : Str := ⟨s.toArray⟩
/-! data as values -/
mutual
def RepV (K : Frag) (H : Hp) : D → V → Prop
  | .non, v => v = .non
  | .bl b, v => v = .bl b
  | .int i, v => v = .int i
  | .str s, v => v = .str (sv s)
  | .ref a, v => v = .ref a
  | .tup ds, v => ∃ t vs, v = .ref t ∧ SqT K H t vs ∧ RepL K H ds vs
def RepL (K : Frag) (H : Hp) : List D → List V → Prop
  | [], vs => vs = []
  | d :: ds, vs => ∃ v vr, vs = v :: vr ∧ RepV K H d v ∧ RepL K H ds vr
end
/-- the classes' places and fields -/
structure Cls2 where
  adr : Nat → Addr
  lay : Nat → List Str
  w : World
def KeyR : D → Key → Prop
  | .int i, k => k = .inl i
  | .str s, k => k = .inr (sv s)
  | _, _ => False
def DicR (K : Frag) (H : Hp) (kvs : List (D × D)) (ks : List (Key × V)) : Prop := Paired (fun (p : D × D) (q : Key × V) => KeyR p.1 q.1 ∧ RepV K H p.2 q.2) kvs ks
/-! a key's kind, as the kit has it -/
mutual
def nkD : D → NestedKey
  | .non => .none
  | .bl b => .num (if b then 1 else 0)
  | .int i => .num i
  | .str s => .text (sv s)
  | .ref _ => .none
  | .tup ds => .tup (nkDs ds)
def nkDs : List D → List NestedKey
  | [] => []
  | d :: ds => nkD d :: nkDs ds
end
abbrev NE := NestedKey × Addr × Value
def entN (w : World) (x : NE) : DictEntry := ⟨x.1.hash w, .ref x.2.1, x.2.2⟩
def dnP (w : World) (a : Addr) (xs : List NE) (h : Heap) : Prop := ∃ o es ep, h.get? a = some o ∧ o.ExactDict ∧ o.data = .dict es ep ∧ es.toList = xs.map (entN w)
/-- a dict whose keys are tuples -/
def dnO (w : World) (a : Addr) (xs : List NE) : HO := .ext (dnP w a xs)
def DnE (K : Frag) (H : Hp) (p : D × D) (x : NE) : Prop := keyN p.1 = true ∧ x.1 = nkD p.1 ∧ RepV K H p.1 (.ref x.2.1) ∧ ∃ v, RelV v x.2.2 ∧ RepV K H p.2 v
def DnR (K : Frag) (H : Hp) (kvs : List (D × D)) (xs : List NE) : Prop := Paired (DnE K H) kvs xs
structure DnOk (K : Frag) (H : Hp) (a : Addr) (kvs : List (D × D)) (xs : List NE) : Prop where
  r : DnR K H kvs xs
  nd : (xs.map (·.1)).Nodup
  z : xs.length ≤ sizeLine
  m : (a == sysModules) = false
def RelO (K : Frag) (cx : Cls2) (H : Hp) (a : Addr) : O → Prop
  | .lst ds => ∃ vs, H a = some (.lst vs) ∧ RepL K H ds vs
  | .dic kvs => ∃ ks, H a = some (.dK ks) ∧ DicR K H kvs ks
  | .fdc kvs h => H a = some h ∧ ∃ o ks, h = .frz o (.dK ks) ∧ DicR K H kvs ks
  | .dn kvs => ∃ xs, H a = some (dnO cx.w a xs) ∧ DnOk K H a kvs xs
  | .fdn kvs h xs => H a = some h ∧ ∃ o, h = .frz o (dnO cx.w a xs) ∧ DnOk K H a kvs xs
  | .ins c fs => ∃ dx fv, H a = some (.ins (cx.adr c) dx fv) ∧ fv.map Prod.fst = (cx.lay c).take fs.length ∧ fs.length ≤ (cx.lay c).length ∧ RepL K H fs (fv.map Prod.snd)
def Rel (K : Frag) (cx : Cls2) (S : Hs) (H : Hp) : Prop := ∀ a o, S a = some o → RelO K cx H a o
def RepX (K : Frag) (H : Hp) (S : Hs) : Vx → V → Prop
  | .d x, v => RepV K H x v
  | .vl ds, v => ∃ a vs, v = .ref a ∧ H a = some (.lst vs) ∧ S a = none ∧ RepL K H ds vs
  | .bw ds, v => ∃ a vs, v = .ref a ∧ H a = some (.lst vs) ∧ S a = none ∧ RepL K H ds vs
  | .fz ds, v => ∃ a vs, v = .ref a ∧ ((∃ o, H a = some (.frz o (.lst vs)) ∧ S a = none) ∨ SqL K (fun _ => none) a vs) ∧ RepL K H ds vs
  | .vd kvs, v => ∃ a ks, v = .ref a ∧ H a = some (.dK ks) ∧ S a = none ∧ DicR K H kvs ks
  | .bd kvs, v => ∃ a ks, v = .ref a ∧ H a = some (.dK ks) ∧ S a = none ∧ DicR K H kvs ks
  | .st _, _ => False
/-- a result: what nobody else holds was made since H0 -/
def RepR (K : Frag) (H0 H : Hp) (S : Hs) (x : Vx) (v : V) : Prop := RepX K H S x v ∧ (own x = true → ∃ a, v = .ref a ∧ H0 a = none)
structure Keep (S S' : Hs) (H H' : Hp) : Prop where
  kp : ∀ b o, H b = some o → S b = none → H' b = some o ∧ S' b = none
  up : ∀ b, H' b = none → H b = none
theorem Keep.refl {S : Hs} {H : Hp} : Keep S S H H := ⟨fun b o e n => ⟨e, n⟩, fun _ e => e⟩
theorem Keep.trans {S1 S2 S3 : Hs} {H1 H2 H3 : Hp} (a : Keep S1 S2 H1 H2) (b : Keep S2 S3 H2 H3) : Keep S1 S3 H1 H3 :=
  ⟨fun c o e n => let ⟨e', n'⟩ := a.kp c o e n; b.kp c o e' n', fun c e => a.up c (b.up c e)⟩
section
variable {K : Frag} {cx : Cls2} {S S' : Hs} {H H' H0 : Hp}
/-- no tuple goes -/
def TupS (K : Frag) (H H' : Hp) : Prop := ∀ t vs, SqT K H t vs → SqT K H' t vs
mutual
theorem RepV.keep (h : TupS K H H') : ∀ (d : D) (v : V), RepV K H d v → RepV K H' d v
  | .non, _, r => r
  | .bl _, _, r => r
  | .int _, _, r => r
  | .str _, _, r => r
  | .ref _, _, r => r
  | .tup ds, _, ⟨t, vs, e, q, r⟩ => ⟨t, vs, e, h _ _ q, RepL.keep h ds vs r⟩
theorem RepL.keep (h : TupS K H H') : ∀ (ds : List D) (vs : List V), RepL K H ds vs → RepL K H' ds vs
  | [], _, r => r
  | d :: ds, _, ⟨v, vr, e, r, rr⟩ => ⟨v, vr, e, RepV.keep h d v r, RepL.keep h ds vr rr⟩
end
theorem DicR.keep (h : TupS K H H') {kvs : List (D × D)} {ks : List (Key × V)} (r : DicR K H kvs ks) : DicR K H' kvs ks := Paired.mapP r fun p q z => ⟨z.1, RepV.keep h _ _ z.2⟩
theorem DnOk.keep (h : TupS K H H') {a : Addr} {kvs : List (D × D)} {xs : List NE} (r : DnOk K H a kvs xs) : DnOk K H' a kvs xs := ⟨Paired.mapP r.r fun p q z => ⟨z.1, z.2.1, RepV.keep h _ _ z.2.2.1, let ⟨v, h1, h2⟩ := z.2.2.2; ⟨v, h1, RepV.keep h _ _ h2⟩⟩, r.nd, r.z, r.m⟩
theorem RepL.nil : RepL K H [] [] := rfl
theorem RepL.cons {d : D} {ds : List D} {v : V} {vs : List V} (r : RepV K H d v) (rr : RepL K H ds vs) : RepL K H (d :: ds) (v :: vs) := ⟨v, vs, rfl, r, rr⟩
theorem RepL.length : ∀ {ds : List D} {vs : List V}, RepL K H ds vs → ds.length = vs.length
  | [], _, e => by cases e; rfl
  | d :: ds, _, ⟨v, vr, e, r, rr⟩ => by subst e; simp [RepL.length rr]
theorem RepL.get : ∀ {ds : List D} {vs : List V} {i : Nat} {d : D}, RepL K H ds vs → ds[i]? = some d → ∃ v, vs[i]? = some v ∧ RepV K H d v
  | [], _, _, _, _, q => by simp at q
  | d :: ds, _, 0, _, ⟨v, vr, e, r, rr⟩, q => by simp at q; subst q; subst e; exact ⟨v, by simp, r⟩
  | d :: ds, _, i + 1, x, ⟨v, vr, e, r, rr⟩, q => by
    obtain ⟨u, h1, h2⟩ := RepL.get (i := i) (d := x) rr (by simpa using q)
    subst e
    exact ⟨u, by simpa using h1, h2⟩
theorem RepL.append : ∀ {ds es : List D} {vs us : List V}, RepL K H ds vs → RepL K H es us → RepL K H (ds ++ es) (vs ++ us)
  | [], _, _, _, e, q => by cases e; exact q
  | d :: ds, _, _, _, ⟨v, vr, e, r, rr⟩, q => by subst e; exact ⟨v, _, rfl, r, RepL.append rr q⟩
theorem RepL.take : ∀ {ds : List D} {vs : List V} (n : Nat), RepL K H ds vs → RepL K H (ds.take n) (vs.take n)
  | _, _, 0, _ => by simp [RepL]
  | [], _, n + 1, e => by cases e; simp [RepL]
  | d :: ds, _, n + 1, ⟨v, vr, e, r, rr⟩ => by subst e; exact ⟨v, _, rfl, r, RepL.take n rr⟩
theorem RepL.drop : ∀ {ds : List D} {vs : List V} (n : Nat), RepL K H ds vs → RepL K H (ds.drop n) (vs.drop n)
  | _, _, 0, r => by simpa using r
  | [], _, n + 1, e => by cases e; simp [RepL]
  | d :: ds, _, n + 1, ⟨v, vr, e, r, rr⟩ => by subst e; exact RepL.drop n rr
theorem RepL.cut {ds : List D} {vs : List V} (r : RepL K H ds vs) (lo hi : Option Int) : RepL K H (cutI ds lo hi) (cutV vs lo hi) := by
  unfold cutI cutV
  rw [r.length]
  exact (r.drop _).take _
theorem RepL.set : ∀ {ds : List D} {vs : List V} (n : Nat) {d : D} {v : V}, RepL K H ds vs → RepV K H d v → RepL K H (ds.set n d) (vs.set n v)
  | [], _, _, _, _, e, _ => by cases e; simp [RepL]
  | d :: ds, _, 0, _, _, ⟨v, vr, e, r, rr⟩, q => by subst e; exact ⟨_, _, rfl, q, rr⟩
  | d :: ds, _, n + 1, _, _, ⟨v, vr, e, r, rr⟩, q => by subst e; exact ⟨_, _, rfl, r, RepL.set n rr q⟩
theorem RepL.eraseIdx : ∀ {ds : List D} {vs : List V} (n : Nat), RepL K H ds vs → RepL K H (ds.eraseIdx n) (vs.eraseIdx n)
  | [], _, _, e => by cases e; simp [RepL]
  | d :: ds, _, 0, ⟨v, vr, e, r, rr⟩ => by subst e; exact rr
  | d :: ds, _, n + 1, ⟨v, vr, e, r, rr⟩ => by subst e; exact ⟨_, _, rfl, r, RepL.eraseIdx n rr⟩
theorem RepL.dropLast {ds : List D} {vs : List V} (r : RepL K H ds vs) : RepL K H ds.dropLast vs.dropLast := by
  rw [List.dropLast_eq_take, List.dropLast_eq_take, r.length]
  exact r.take _
theorem RepL.rep {ds : List D} {vs : List V} (r : RepL K H ds vs) : ∀ n, RepL K H (repD ds n) ((List.replicate n vs).flatten)
  | 0 => by simp [repD, RepL]
  | n + 1 => by
    have := RepL.append r (RepL.rep r n)
    simpa [repD, List.replicate_succ] using this
theorem RepL.ints : ∀ {ns : List Int} {vs : List V}, RepL K H (ns.map D.int) vs → vs = ns.map V.int
  | [], _, e => e
  | n :: ns, _, ⟨v, vr, e, r, rr⟩ => by subst e; cases r; rw [RepL.ints rr]; rfl
theorem RepL.ofInts : ∀ (ns : List Int), RepL K H (ns.map D.int) (ns.map V.int)
  | [] => rfl
  | n :: ns => ⟨_, _, rfl, rfl, RepL.ofInts ns⟩
theorem RepL.bls : ∀ {ns : List Bool} {vs : List V}, RepL K H (ns.map D.bl) vs → vs = ns.map V.bl
  | [], _, e => e
  | n :: ns, _, ⟨v, vr, e, r, rr⟩ => by subst e; cases r; rw [RepL.bls rr]; rfl

/-! ### heaps that grow -/
def seqish : HO → Bool
  | .tup _ => true
  | .frz _ (.dK _) => false
  | .frz _ (.ext _) => false
  | .frz _ _ => true
  | _ => false
theorem tupS_upd {a : Addr} {h : HO} (q : ∀ o, H a = some o → seqish o = false) : TupS K H (upd H a h) := by
  intro t vs hs
  rcases hs with (hs | ⟨o, hs⟩) | hs
  · refine .inl (.inl ?_)
    rw [upd_ne]
    · exact hs
    · rintro rfl
      have := q _ hs
      simp [seqish] at this
  · refine .inl (.inr ⟨o, ?_⟩)
    rw [upd_ne]
    · exact hs
    · rintro rfl
      have := q _ hs
      simp [seqish] at this
  · exact .inr hs
theorem tupS_new {a : Addr} {h : HO} (q : H a = none) : TupS K H (upd H a h) := tupS_upd fun o e => by rw [q] at e; cases e
theorem RelO.keep {a : Addr} {o : O} (h : TupS K H H') (e : H' a = H a) (r : RelO K cx H a o) : RelO K cx H' a o := by
  cases o with
  | lst ds => obtain ⟨vs, q, r⟩ := r; exact ⟨vs, e.trans q, r.keep h⟩
  | dic kvs => obtain ⟨ks, q, r⟩ := r; exact ⟨ks, e.trans q, r.keep h⟩
  | fdc kvs z => obtain ⟨q, o, ks, e1, r⟩ := r; exact ⟨e.trans q, o, ks, e1, r.keep h⟩
  | dn kvs => obtain ⟨xs, q, r⟩ := r; exact ⟨xs, e.trans q, r.keep h⟩
  | fdn kvs z xs => obtain ⟨q, o, e1, r⟩ := r; exact ⟨e.trans q, o, e1, r.keep h⟩
  | ins c fs => obtain ⟨dx, fv, q, l1, l2, r⟩ := r; exact ⟨dx, fv, e.trans q, l1, l2, r.keep h⟩
theorem RelO.some {a : Addr} {o : O} (r : RelO K cx H a o) : ∃ h, H a = .some h ∧ seqish h = false := by
  cases o with
  | lst ds => obtain ⟨vs, q, r⟩ := r; exact ⟨_, q, rfl⟩
  | dic kvs => obtain ⟨ks, q, r⟩ := r; exact ⟨_, q, rfl⟩
  | fdc kvs z => obtain ⟨q, o, ks, e1, r⟩ := r; subst e1; exact ⟨_, q, rfl⟩
  | dn kvs => obtain ⟨xs, q, r⟩ := r; exact ⟨_, q, rfl⟩
  | fdn kvs z xs => obtain ⟨q, o, e1, r⟩ := r; subst e1; exact ⟨_, q, rfl⟩
  | ins c fs => obtain ⟨dx, fv, q, l1, l2, r⟩ := r; exact ⟨_, q, rfl⟩
theorem Rel.free (r : Rel K cx S H) {a : Addr} (e : H a = none) : S a = none := by
  cases q : S a with
  | none => rfl
  | some o =>
    obtain ⟨h, z, _⟩ := (r a o q).some
    rw [e] at z; cases z
/-- an untracked place is written -/
theorem Rel.upd0 (r : Rel K cx S H) {a : Addr} {h : HO} (n : S a = none) (t : TupS K H (upd H a h)) : Rel K cx S (upd H a h) := fun b o e =>
  RelO.keep t (upd_ne fun z => by subst z; rw [n] at e; cases e) (r b o e)
theorem Rel.upd1 (r : Rel K cx S H) {a : Addr} {h : HO} {o : O} (t : TupS K H (upd H a h)) (q : RelO K cx (upd H a h) a o) : Rel K cx (su S a o) (upd H a h) := fun b u e => by
  by_cases z : b = a
  · subst z; rw [su_same] at e; cases e; exact q
  · rw [su_ne z] at e
    exact RelO.keep t (upd_ne z) (r b u e)
/-- what nobody holds comes to stand in the heap of data -/
theorem Rel.box (r : Rel K cx S H) {a : Addr} {o : O} (q : RelO K cx H a o) : Rel K cx (su S a o) H := fun b u e => by
  by_cases z : b = a
  · subst z; rw [su_same] at e; cases e; exact q
  · rw [su_ne z] at e
    exact r b u e
theorem Keep.new {a : Addr} {h : HO} (n : H a = none) : Keep S S H (upd H a h) :=
  ⟨fun b o e z => ⟨by rw [upd_ne (ne_of_none e n)]; exact e, z⟩, fun b e => by
    by_cases z : b = a
    · subst z; exact n
    · rw [upd_ne z] at e; exact e⟩
/-- the tuples stand behind a step -/
theorem Keep.tups (k : Keep S S' H H') (r : Rel K cx S H) : TupS K H H' := by
  intro t vs hs
  have key : ∀ o, H t = .some o → seqish o = true → H' t = .some o := fun o e q => by
    refine (k.kp t o e ?_).1
    cases z : S t with
    | none => rfl
    | some u =>
      obtain ⟨h, h1, h2⟩ := (r t u z).some
      rw [e] at h1; cases h1
      rw [q] at h2; cases h2
  rcases hs with (hs | ⟨o, hs⟩) | hs
  · exact .inl (.inl (key _ hs rfl))
  · exact .inl (.inr ⟨o, key _ hs rfl⟩)
  · exact .inr hs
theorem Keep.sql (k : Keep S S' H H') {a : Addr} {vs : List V} (n : S a = none) (h : SqL K H a vs) : SqL K H' a vs := by
  rcases h with (h | ⟨o, h⟩) | h
  · exact .inl (.inl (k.kp _ _ h n).1)
  · exact .inl (.inr ⟨o, (k.kp _ _ h n).1⟩)
  · exact .inr h
theorem sqL_none {a : Addr} {vs : List V} (h : SqL K (fun _ => none) a vs) : SqL K H a vs := by
  rcases h with (h | ⟨o, h⟩) | h
  · cases h
  · cases h
  · exact .inr h
theorem fz_sql {a : Addr} {vs : List V} {S : Hs} (h : (∃ o, H a = some (.frz o (.lst vs)) ∧ S a = none) ∨ SqL K (fun _ => none) a vs) : SqL K H a vs := by
  rcases h with ⟨o, h, _⟩ | h
  · exact .inl (.inr ⟨o, h⟩)
  · exact sqL_none h
end
end DL

/-! DL2b: tuple * int, any small int. -/
namespace DL
open PySem L2 PySem.Spec PyProof.Rows
theorem tmul_same (l : Addr) (items : Array Value) (n : Nat) (dd : Option Addr) (sl : Array (Option Value)) (x : Int) (u : Tok) (c0 : (decide (x < -(2 ^ 63)) || decide (x ≥ 2 ^ 63)) = false) (c1 : (items.isEmpty || x == 1) = true) :
    Meets (Builtin.«tuple.__mul__» ⟨[.ref l, .int x u], []⟩) (fun _ R s => s.heap.get? l = some { cls := .type "tuple", dict := dd, data := .seq items n, slots := sl } ∧ R (.ok (.ret (Value.ref l))) s) :=
  .of_wp fun prog w A R s h => by
    obtain ⟨hp, g, d, tk, os⟩ := s
    obtain ⟨hl, h⟩ := h
    have f1 := AutoSeq1.idx_int
    wp_walk using wpAny_loadPart' hl
    repeat (first
      | (refine wpAny_ite_false (decide_eq_false (by rw [c0]; exact Bool.false_ne_true)) ?_; wp_walk using wpAny_loadPart' hl)
      | (refine wpAny_ite_true (decide_eq_true c1) ?_; wp_walk using wpAny_loadPart' hl))
    exact ⟨_, rfl, h⟩
theorem tmul_none (l : Addr) (items : Array Value) (n : Nat) (dd : Option Addr) (sl : Array (Option Value)) (x : Int) (u : Tok) (c0 : (decide (x < -(2 ^ 63)) || decide (x ≥ 2 ^ 63)) = false) (c1 : (items.isEmpty || x == 1) = false) (c2 : (decide (x ≤ 0) || items.isEmpty) = true) :
    Meets (Builtin.«tuple.__mul__» ⟨[.ref l, .int x u], []⟩) (fun _ R s => s.heap.get? l = some { cls := .type "tuple", dict := dd, data := .seq items n, slots := sl } ∧
      R (.ok (.ret (Value.ref s.heap.objs.size))) { s with heap := s.heap.push { cls := Value.type "tuple", data := Data.seq #[] }, toks := s.toks }) :=
  .of_wp fun prog w A R s h => by
    obtain ⟨hp, g, d, tk, os⟩ := s
    obtain ⟨hl, h⟩ := h
    have f1 := AutoSeq1.idx_int
    wp_walk using wpAny_loadPart' hl
    repeat (first
      | (refine wpAny_ite_false (decide_eq_false (by rw [c0]; exact Bool.false_ne_true)) ?_; wp_walk using wpAny_loadPart' hl)
      | (refine wpAny_ite_false (decide_eq_false (by rw [c1]; exact Bool.false_ne_true)) ?_; wp_walk using wpAny_loadPart' hl)
      | (refine wpAny_ite_true (decide_eq_true c2) ?_; wp_walk using wpAny_loadPart' hl))
    exact ⟨_, rfl, h⟩
def rRepS (K : Frag) : R2 := fun x y H Q => ∃ l k xs, x = .ref l ∧ y = .int k ∧ SqT K H l xs ∧ (xs = [] ∨ k = 1) ∧ -(2 ^ 62) < k ∧ k ≤ 1000 ∧ Q (.ref l) H
def rRepZ (K : Frag) : R2 := fun x y H Q => ∃ l k xs, x = .ref l ∧ y = .int k ∧ SqT K H l xs ∧ xs ≠ [] ∧ -(2 ^ 62) < k ∧ k ≤ 0 ∧ ∀ p, H p = none → Q (.ref p) (upd H p (.tup []))
section
variable {X : Cx}
theorem op_repS : OpR X (binaryOp .Mult) (rRepS X.K) := by
  intro pins s σ H x y v u Q I rx ry h
  obtain ⟨l, k, xs, rfl, rfl, hT, hk, h1, h2, q⟩ := h
  cases rx
  obtain ⟨t, rfl⟩ := ry
  obtain ⟨its, r, ⟨⟨cls, dd, data, sl⟩, ho, hc, n, hd⟩, hs⟩ := I.tuple hT
  simp only at hc hd
  subst hc hd
  have c0 : (decide (k < -(2 ^ 63)) || decide (k ≥ 2 ^ 63)) = false := by
    rw [decide_eq_false (by omega), decide_eq_false (by omega)] <;> rfl
  have c1 : (its.toArray.isEmpty || k == 1) = true := by
    rcases hk with rfl | rfl
    · cases r; rfl
    · rw [Bool.or_eq_true]; exact .inr rfl
  exact wpAny_binaryOp_repeat_ref (T := "tuple") (U := "int") (by decide) ⟨_, ho, rfl⟩ (fun s' => typeIs_int s' k t) noFill_tuple_mul F.fills_int_mul F.slot_int_rmul repeat_tuple F.slot_int_index.lookup
    (call_meets F.slot_int_rmul (typeIs_int s k t) F.entry_int_rmul (F.args_int_rmul_2 _ _) (int_rmul_tuple k t l its.toArray n dd sl)
      ⟨ho, rfl, ⟨_, ho, rfl⟩, call_meets F.slot_tuple_mul ⟨_, ho, rfl⟩ F.entry_tuple_mul (F.args_tuple_mul_2 _ _) (tmul_same l its.toArray n dd sl k t c0 c1) ⟨ho, ⟨.ref l, H, I, rfl, q⟩⟩⟩)
theorem op_repZ : OpR X (binaryOp .Mult) (rRepZ X.K) := by
  intro pins s σ H x y v u Q I rx ry h
  obtain ⟨l, k, xs, rfl, rfl, hT, hne, h1, h2, q⟩ := h
  cases rx
  obtain ⟨t, rfl⟩ := ry
  obtain ⟨its, r, ⟨⟨cls, dd, data, sl⟩, ho, hc, n, hd⟩, hs⟩ := I.tuple hT
  simp only at hc hd
  subst hc hd
  have hn : its ≠ [] := fun e => hne (by subst e; cases r; rfl)
  have hi : its.toArray.isEmpty = false := by
    cases its with
    | nil => exact absurd rfl hn
    | cons a b => rfl
  have c0 : (decide (k < -(2 ^ 63)) || decide (k ≥ 2 ^ 63)) = false := by
    rw [decide_eq_false (by omega), decide_eq_false (by omega)] <;> rfl
  have c1 : (its.toArray.isEmpty || k == 1) = false := by
    rw [hi, Bool.false_or]
    exact beq_eq_false_iff_ne.mpr (by omega)
  have c2 : (decide (k ≤ 0) || its.toArray.isEmpty) = true := by
    rw [Bool.or_eq_true]; exact .inl (decide_eq_true h2)
  refine wpAny_binaryOp_repeat_ref (T := "tuple") (U := "int") (by decide) ⟨_, ho, rfl⟩ (fun s' => typeIs_int s' k t) noFill_tuple_mul F.fills_int_mul F.slot_int_rmul repeat_tuple F.slot_int_index.lookup
    (call_meets F.slot_int_rmul (typeIs_int s k t) F.entry_int_rmul (F.args_int_rmul_2 _ _) (int_rmul_tuple k t l its.toArray n dd sl)
      ⟨ho, rfl, ⟨_, ho, rfl⟩, call_meets F.slot_tuple_mul ⟨_, ho, rfl⟩ F.entry_tuple_mul (F.args_tuple_mul_2 _ _) (tmul_none l its.toArray n dd sl k t c0 c1 c2) ⟨ho, ?_⟩⟩)
  refine ⟨.ref s.heap.objs.size, _, I.laid (t' := s.toks) (o := .tup []) (fun b ob q => Heap.get?_push_of_some _ q) (Nat.le_refl _) ?_, rfl, q _ (I.hok.fresh (Nat.le_refl _))⟩
  exact ⟨Nat.zero_le _, [], .nil, IsTup.new _ _⟩
end
end DL

/-! DL3: the operators are sound. -/
namespace DL
open PySem L2 PySem.Spec PyProof.Rows
def KVof (K : Frag) (cx : Cls2) (S : Hs) (H : Hp) (Q : VK) : VK2 := fun z S' => ∀ v H', Rel K cx S' H' → Keep S S' H H' → RepR K H H' S' z v → Q v H'
def r1of (K : Frag) (cx : Cls2) (f : Vx → Hs → VK2 → Prop) : V → Hp → VK → Prop := fun x H Q => ∃ S a, Rel K cx S H ∧ RepX K H S a x ∧ f a S (KVof K cx S H Q)
def r2of (K : Frag) (cx : Cls2) (f : Vx → Vx → Hs → VK2 → Prop) : R2 := fun x y H Q => ∃ S a b, Rel K cx S H ∧ RepX K H S a x ∧ RepX K H S b y ∧ f a b S (KVof K cx S H Q)
section
variable {K : Frag} {cx : Cls2} {S S' : Hs} {H H' H0 : Hp} {Q : VK}
theorem fin {z : Vx} {v : V} (k : KVof K cx S H Q z S) (hr : Rel K cx S H) (r : RepX K H S z v) (n : own z = false) : Q v H := k v H hr .refl ⟨r, fun e => by rw [n] at e; cases e⟩
theorem fin_d {x : D} {v : V} (k : KVof K cx S H Q (.d x) S) (hr : Rel K cx S H) (r : RepV K H x v) : Q v H := fin k hr r rfl
theorem fin_bl {b : Bool} (k : KVof K cx S H Q (.d (.bl b)) S) (hr : Rel K cx S H) : Q (.bl b) H := fin_d k hr rfl
theorem fin_int {i : Int} (k : KVof K cx S H Q (.d (.int i)) S) (hr : Rel K cx S H) : Q (.int i) H := fin_d k hr rfl
theorem fin_tup {ds : List D} {vs : List V} (k : KVof K cx S H Q (.d (.tup ds)) S) (hr : Rel K cx S H) (r : RepL K H ds vs) (p : Addr) (n : H p = none) : Q (.ref p) (upd H p (.tup vs)) :=
  k _ _ (hr.upd0 (hr.free n) (tupS_new n)) (.new n) ⟨⟨p, vs, rfl, SqT.of upd_same, r.keep (tupS_new n)⟩, fun e => by cases e⟩
theorem fin_vl {ds : List D} {vs : List V} (k : KVof K cx S H Q (.vl ds) S) (hr : Rel K cx S H) (r : RepL K H ds vs) (p : Addr) (n : H p = none) : Q (.ref p) (upd H p (.lst vs)) :=
  k _ _ (hr.upd0 (hr.free n) (tupS_new n)) (.new n) ⟨⟨p, vs, rfl, upd_same, hr.free n, r.keep (tupS_new n)⟩, fun _ => ⟨p, rfl, n⟩⟩
/-- a container as it stands -/
def CnR (K : Frag) (cx : Cls2) (H : Hp) : Cn → V → Prop
  | .l ds, v => ∃ a vs, v = .ref a ∧ H a = some (.lst vs) ∧ RepL K H ds vs
  | .f ds, v => ∃ a vs, v = .ref a ∧ SqL K H a vs ∧ RepL K H ds vs
  | .t ds, v => ∃ a vs, v = .ref a ∧ SqT K H a vs ∧ RepL K H ds vs
  | .s cs, v => v = .str (sv cs)
  | .k kvs, v => ∃ a ks, v = .ref a ∧ H a = some (.dK ks) ∧ DicR K H kvs ks
  | .kn kvs, v => ∃ a xs, v = .ref a ∧ H a = some (dnO cx.w a xs) ∧ DnOk K H a kvs xs
  | .kfn kvs, v => ∃ a xs o, v = .ref a ∧ H a = some (.frz o (dnO cx.w a xs)) ∧ DnOk K H a kvs xs
  | .kf kvs, v => ∃ a ks o, v = .ref a ∧ H a = some (.frz o (.dK ks)) ∧ DicR K H kvs ks
  | .i c fs, v => ∃ a, v = .ref a ∧ RelO K cx H a (.ins c fs)
  | .e _, _ => False
theorem view_of {x : Vx} {v : V} {P : Cn → Prop} (hr : Rel K cx S H) (r : RepX K H S x v) (w : view x S P) : ∃ c, P c ∧ CnR K cx H c v := by
  cases x with
  | d y =>
    cases y with
    | ref a =>
      obtain ⟨o, e, q⟩ := w
      refine ⟨_, q, ?_⟩
      cases r
      have z := hr a o e
      cases o with
      | lst ds => obtain ⟨vs, h, r⟩ := z; exact ⟨a, vs, rfl, h, r⟩
      | dic kvs => obtain ⟨ks, h, r⟩ := z; exact ⟨a, ks, rfl, h, r⟩
      | fdc kvs y => obtain ⟨h, o, ks, e1, r⟩ := z; subst e1; exact ⟨a, ks, o, rfl, h, r⟩
      | dn kvs => obtain ⟨xs, h, r⟩ := z; exact ⟨a, xs, rfl, h, r⟩
      | fdn kvs y xs => obtain ⟨h, o, e1, r⟩ := z; subst e1; exact ⟨a, xs, o, rfl, h, r⟩
      | ins c fs => exact ⟨a, rfl, z⟩
    | str s => exact ⟨_, w, r⟩
    | tup ds => exact ⟨_, w, r⟩
    | non => exact w.elim
    | bl b => exact w.elim
    | int i => exact w.elim
  | vl ds => obtain ⟨a, vs, rfl, h, n, r⟩ := r; exact ⟨_, w, a, vs, rfl, h, r⟩
  | fz ds => obtain ⟨a, vs, rfl, h, r⟩ := r; exact ⟨_, w, a, vs, rfl, fz_sql h, r⟩
  | bw ds => obtain ⟨a, vs, rfl, h, n, r⟩ := r; exact ⟨_, w, a, vs, rfl, h, r⟩
  | vd ds => obtain ⟨a, vs, rfl, h, n, r⟩ := r; exact ⟨_, w, a, vs, rfl, h, r⟩
  | bd ds => obtain ⟨a, vs, rfl, h, n, r⟩ := r; exact ⟨_, w, a, vs, rfl, h, r⟩
  | st ds => exact r.elim
end

/-! ### + - * // % ** -/
section
variable {X : Cx} {cx : Cls2}
theorem rI_elim {C : Int → Int → Prop} {g : Int → Int → V} {f : Int → Int → VK2 → Hs → Prop} {gd : Int → Int → D} (hg : ∀ i j H, RepV X.K H (gd i j) (g i j)) (hf : ∀ i j Q S, f i j Q S → C i j ∧ Q (.d (gd i j)) S) {x y : V} {H : Hp} {Q : VK}
    (w : r2of X.K cx (intD f) x y H Q) : rI C g x y H Q := by
  obtain ⟨S, a, b, hr, ra, rb, w⟩ := w
  unfold intD at w
  split at w
  · cases ra
    cases rb
    obtain ⟨h1, h2⟩ := hf _ _ _ _ w
    exact ⟨_, _, rfl, rfl, h1, fin_d h2 hr (hg _ _ _)⟩
  · exact w.elim
theorem rI0_elim {g : Int → Int → V} {f : Int → Int → VK2 → Hs → Prop} {gd : Int → Int → D} (hg : ∀ i j H, RepV X.K H (gd i j) (g i j)) (hf : ∀ i j Q S, f i j Q S → Q (.d (gd i j)) S) {x y : V} {H : Hp} {Q : VK}
    (w : r2of X.K cx (intD f) x y H Q) : rI0 g x y H Q := by
  obtain ⟨i, j, h1, h2, _, h3⟩ := rI_elim (C := fun _ _ => True) hg (fun i j Q S h => ⟨trivial, hf i j Q S h⟩) w
  exact ⟨i, j, h1, h2, h3⟩
theorem opImp {f : Value → Value → Sem Value} {r r' : R2} (h : OpR X f r) (i : ∀ x y H Q, r' x y H Q → r x y H Q) : OpR X f r' := fun pins s σ H x y v u Q I rx ry w => h pins s σ H x y v u Q I rx ry (i _ _ _ _ w)
theorem op2_sub : OpR X (binaryOp .Sub) (r2of X.K cx (op2D .sub)) := opImp op_sub fun x y H Q w => rI0_elim (gd := fun i j => .int (i - j)) (fun _ _ _ => rfl) (fun _ _ _ _ h => h) w
theorem op2_mod : OpR X (binaryOp .Mod) (r2of X.K cx (op2D .mod)) := opImp op_mod fun x y H Q w => rI_elim (gd := fun i j => .int (i % j)) (fun _ _ _ => rfl) (fun _ _ _ _ h => h) w
theorem op2_fdiv : OpR X (binaryOp .FloorDiv) (r2of X.K cx (op2D .fdiv)) := opImp op_fdivW fun x y H Q w => rI_elim (gd := fun i j => .int (i / j)) (fun _ _ _ => rfl) (fun _ _ _ _ h => h) w
theorem op2_pow : OpR X (binaryOp .Pow) (r2of X.K cx (op2D .pow)) := opImp op_pow fun x y H Q w => rI_elim (gd := fun i j => .int (i ^ j.toNat)) (fun _ _ _ => rfl) (fun _ _ _ _ h => h) w
theorem op2_lt : OpR X (compareOp .Lt) (r2of X.K cx (op2D .lt)) := opImp op_lt fun x y H Q w => rI0_elim (gd := fun i j => .bl (decide (i < j))) (fun _ _ _ => rfl) (fun _ _ _ _ h => h) w
theorem op2_le : OpR X (compareOp .LtE) (r2of X.K cx (op2D .le)) := opImp op_le fun x y H Q w => rI0_elim (gd := fun i j => .bl (decide (i ≤ j))) (fun _ _ _ => rfl) (fun _ _ _ _ h => h) w
theorem op2_gt : OpR X (compareOp .Gt) (r2of X.K cx (op2D .gt)) := opImp op_gt fun x y H Q w => rI0_elim (gd := fun i j => .bl (decide (j < i))) (fun _ _ _ => rfl) (fun _ _ _ _ h => h) w
theorem op2_ge : OpR X (compareOp .GtE) (r2of X.K cx (op2D .ge)) := opImp op_ge fun x y H Q w => rI0_elim (gd := fun i j => .bl (decide (j ≤ i))) (fun _ _ _ => rfl) (fun _ _ _ _ h => h) w
theorem sv_append (a b : List Nat) : sv a ++ sv b = sv (a ++ b) := by
  show (⟨a.toArray ++ b.toArray⟩ : Str) = ⟨(a ++ b).toArray⟩
  simp
theorem sv_length (a : List Nat) : (sv a).length = a.length := by
  show a.toArray.size = a.length
  simp
theorem op2_add : OpR X (binaryOp .Add) (r2of X.K cx (op2D .add)) := by
  intro pins s σ H x y v u Q I rx ry w
  obtain ⟨S, a, b, hr, ra, rb, w⟩ := w
  have w : addD a b S (KVof X.K cx S H Q) := w
  unfold addD at w
  split at w
  · cases ra
    cases rb
    exact op_add pins s σ H _ _ v u Q I rx ry ⟨_, _, rfl, rfl, fin_int w hr⟩
  · cases ra
    cases rb
    refine op_add_str pins s σ H _ _ v u Q I rx ry ⟨_, _, rfl, rfl, by rw [sv_length, sv_length]; exact w.1, ?_⟩
    rw [sv_append]
    exact fin_d w.2 hr rfl
  · rename_i S as bs Q'
    obtain ⟨p, vs, rfl, hp, r1⟩ := ra
    obtain ⟨q, us, rfl, hq, r2⟩ := rb
    refine op_catA pins s σ H _ _ v u Q I rx ry ⟨p, q, vs, us, rfl, rfl, hp, hq, by rw [← r1.length, ← r2.length]; exact w.1, fun e => ?_, fun _ e => ?_, fun _ _ => fin_tup w.2 hr (r1.append r2)⟩
    · subst e
      have h := r1.length
      have h0 : as = [] := List.length_eq_zero_iff.mp h
      subst h0
      exact fin_d w.2 hr ⟨q, us, rfl, hq, r2⟩
    · subst e
      have h := r2.length
      have h0 : bs = [] := List.length_eq_zero_iff.mp h
      subst h0
      refine fin_d w.2 hr ⟨p, vs, rfl, hp, ?_⟩
      rw [List.append_nil]
      exact r1
  · obtain ⟨c, w, hc⟩ := view_of hr ra w
    obtain ⟨c', w, hc'⟩ := view_of hr rb w
    cases c <;> cases c' <;> first | exact w.elim | skip
    obtain ⟨p, vs, rfl, hp, r1⟩ := hc
    obtain ⟨q, us, rfl, hq, r2⟩ := hc'
    exact op_cat pins s σ H _ _ v u Q I rx ry ⟨p, q, vs, us, rfl, rfl, hp, hq, by rw [← r1.length, ← r2.length]; exact w.1, fin_vl w.2 hr (r1.append r2)⟩
theorem op2_mul : OpR X (binaryOp .Mult) (r2of X.K cx (op2D .mul)) := by
  intro pins s σ H x y v u Q I rx ry w
  obtain ⟨S, a, b, hr, ra, rb, w⟩ := w
  have w : mulD a b S (KVof X.K cx S H Q) := w
  unfold mulD at w
  split at w
  · cases ra
    cases rb
    rcases w.1 with h | h
    · exact op_mul pins s σ H _ _ v u Q I rx ry ⟨_, _, rfl, rfl, h, fin_int w.2 hr⟩
    · exact op_mulW pins s σ H _ _ v u Q I rx ry ⟨_, _, rfl, rfl, h, fin_int w.2 hr⟩
  · obtain ⟨p, vs, rfl, hp, r1⟩ := ra
    cases rb
    obtain ⟨h1, w⟩ := w
    rename_i _ ds k _
    have two : k = 1 ∨ k ≤ 0 ∨ 2 ≤ k := by omega
    have emp : vs = [] → ds = [] := fun e => List.length_eq_zero_iff.mp (by rw [r1.length, e]; rfl)
    by_cases e0 : vs = []
    · have e1 := emp e0
      subst e1
      have er : repD ([] : List DL.D) k.toNat = [] := by unfold repD; simp
      rw [er] at w
      exact op_repS pins s σ H _ _ v u Q I rx ry ⟨p, _, vs, rfl, rfl, hp, .inl e0, h1.1, h1.2.1, w _ _ hr .refl ⟨⟨p, vs, rfl, hp, r1⟩, fun e => by cases e⟩⟩
    · rcases two with rfl | hz | h2
      · have er : repD ds (1 : Int).toNat = ds := by unfold repD; simp
        rw [er] at w
        exact op_repS pins s σ H _ _ v u Q I rx ry ⟨p, _, vs, rfl, rfl, hp, .inr rfl, h1.1, h1.2.1, w _ _ hr .refl ⟨⟨p, vs, rfl, hp, r1⟩, fun e => by cases e⟩⟩
      · have er : repD ds k.toNat = [] := by
          have : k.toNat = 0 := by omega
          unfold repD; rw [this]; simp
        rw [er] at w
        exact op_repZ pins s σ H _ _ v u Q I rx ry ⟨p, _, vs, rfl, rfl, hp, e0, h1.1, hz, fin_tup w hr rfl⟩
      · exact op_repT pins s σ H _ _ v u Q I rx ry ⟨p, _, vs, rfl, rfl, hp, e0, h2, h1.2.1, by rw [← r1.length]; exact h1.2.2, fin_tup w hr (r1.rep _)⟩
  · obtain ⟨h1, w⟩ := w
    obtain ⟨c, w, hc⟩ := view_of hr ra w
    cases c <;> first | exact w.elim | skip
    cases rb
    obtain ⟨p, vs, rfl, hp, r1⟩ := hc
    exact op_rep pins s σ H _ _ v u Q I rx ry ⟨p, _, vs, rfl, rfl, hp, by omega, by have := w.1; omega, by rw [← r1.length]; exact w.2.1, fin_vl w.2.2 hr (r1.rep _)⟩
  · exact w.elim
end

/-! ### equality -/
mutual
def toP : D → PyData
  | .non => .none
  | .bl b => .bool b
  | .int i => .int i
  | .str s => .str (sv s)
  | .ref _ => .none
  | .tup ds => .tuple (toPs ds)
def toPs : List D → List PyData
  | [] => []
  | d :: ds => toP d :: toPs ds
end
theorem sv_inj {a b : List Nat} : (sv a == sv b) = decide (a = b) := by
  by_cases h : a = b
  · subst h; simp
  · have h' : ¬ sv a = sv b := fun e => h (by have := congrArg (fun z : Str => z.cps.toList) e; simpa using this)
    rw [decide_eq_false h]
    exact beq_eq_false_iff_ne.mpr h'
mutual
theorem eqB_eqv : ∀ (a b : D) (n m : Nat), pl n a = true → pl m b = true → eqB a b = PyData.eqv (toP a) (toP b)
  | .non, b, _, _, _, h => by cases b <;> first | rfl | (simp [pl] at h)
  | .bl x, b, _, _, _, h => by
    cases b <;> first | rfl | (simp [pl] at h; done)
  | .int i, b, _, _, _, h => by
    cases b <;> first | rfl | (simp [pl] at h; done)
  | .str x, b, _, _, _, h => by
    cases b <;> first | rfl | (simp [pl] at h; done) | skip
    show decide _ = (sv x == sv _)
    rw [sv_inj]
  | .ref a, _, _, _, h, _ => by simp [pl] at h
  | .tup ds, b, n, m, h, h' => by
    cases b <;> first | rfl | (simp [pl] at h'; done) | skip
    cases n with
    | zero => simp [pl] at h
    | succ n =>
      cases m with
      | zero => simp [pl] at h'
      | succ m =>
        show eqBs _ _ = PyData.eqvAll _ _
        exact eqBs_eqv ds _ n m (by simpa [pl] using h) (by simpa [pl] using h')
theorem eqBs_eqv : ∀ (a b : List D) (n m : Nat), pls n a = true → pls m b = true → eqBs a b = PyData.eqvAll (toPs a) (toPs b)
  | [], [], _, _, _, _ => rfl
  | [], _ :: _, _, _, _, _ => rfl
  | _ :: _, [], _, _, _, _ => rfl
  | x :: xs, y :: ys, n, m, h, h' => by
    simp only [pls, Bool.and_eq_true] at h h'
    show (eqB x y && eqBs xs ys) = (PyData.eqv (toP x) (toP y) && PyData.eqvAll (toPs xs) (toPs ys))
    rw [eqB_eqv x y n m h.1 h'.1, eqBs_eqv xs ys n m h.2 h'.2]
end
mutual
theorem pl_lay : ∀ (n : Nat) (a : D), pl n a = true → (toP a).canLay0 = true ∧ (toP a).depth ≤ n
  | n, .non, _ => ⟨rfl, Nat.zero_le _⟩
  | n, .bl _, _ => ⟨rfl, Nat.zero_le _⟩
  | n, .int _, _ => ⟨rfl, Nat.zero_le _⟩
  | n, .str s, h => by
    refine ⟨?_, Nat.zero_le _⟩
    have h : (s.all fun c => decide (c < 1114112)) = true := by simpa [pl] using h
    have e : (toP (.str s)).canLay0 = (s.toArray.all fun c => decide (c < 0x110000)) := rfl
    rw [e]
    simpa using h
  | n, .ref _, h => by simp [pl] at h
  | 0, .tup ds, h => by simp [pl] at h
  | n + 1, .tup ds, h => by
    obtain ⟨h1, h2⟩ := pls_lay n ds (by simpa [pl] using h)
    exact ⟨h1, Nat.succ_le_succ h2⟩
theorem pls_lay : ∀ (n : Nat) (a : List D), pls n a = true → PyData.canLayAll0 (toPs a) = true ∧ PyData.depthAll (toPs a) ≤ n
  | n, [], _ => ⟨rfl, Nat.zero_le _⟩
  | n, d :: ds, h => by
    simp only [pls, Bool.and_eq_true] at h
    obtain ⟨h1, h2⟩ := pl_lay n d h.1
    obtain ⟨h3, h4⟩ := pls_lay n ds h.2
    refine ⟨?_, ?_⟩
    · show ((toP d).canLay0 && PyData.canLayAll0 (toPs ds)) = true
      rw [h1, h3]; rfl
    · show max _ _ ≤ n
      omega
end
theorem pln_shaped {a : D} (h : pln a = true) : SeqAt.shaped (toP a) = true := by
  obtain ⟨h1, h2⟩ := pl_lay 60 a h
  unfold SeqAt.shaped
  rw [h1, decide_eq_true (by omega)]; rfl
theorem plns_shaped {a : List D} (h : plns a = true) : SeqAt.shaped (.list (toPs a)) = true := by
  obtain ⟨h1, h2⟩ := pls_lay 60 a h
  unfold SeqAt.shaped
  have e : (PyData.list (toPs a)).canLay0 = true := h1
  have e' : (PyData.list (toPs a)).depth = PyData.depthAll (toPs a) + 1 := rfl
  rw [e, e', decide_eq_true (by omega)]; rfl
mutual
theorem RepV.dp {K : Frag} {H : Hp} : ∀ (n : Nat) (d : D) (v : V), pl n d = true → RepV K H d v → Dp K H v (toP d)
  | _, .non, _, _, r => by cases r; exact .non
  | _, .bl b, _, _, r => by cases r; exact .bl b
  | _, .int b, _, _, r => by cases r; exact .int b
  | _, .str b, _, _, r => by cases r; exact .str _
  | _, .ref a, _, h, _ => by simp [pl] at h
  | 0, .tup ds, _, h, _ => by simp [pl] at h
  | n + 1, .tup ds, _, h, ⟨t, vs, e, q, r⟩ => by
    subst e
    exact .tup q (RepL.dp n ds vs (by simpa [pl] using h) r)
theorem RepL.dp {K : Frag} {H : Hp} : ∀ (n : Nat) (ds : List D) (vs : List V), pls n ds = true → RepL K H ds vs → DpAll K H vs (toPs ds)
  | _, [], _, _, r => by cases r; exact .nil
  | n, d :: ds, _, h, ⟨v, vr, e, r, rr⟩ => by
    subst e
    simp only [pls, Bool.and_eq_true] at h
    exact .cons (RepV.dp n d v h.1 r) (RepL.dp n ds vr h.2 rr)
end
section
variable {X : Cx} {cx : Cls2}
/-- two lists, the right one empty: by their lengths, whatever the left one holds -/
def rEE (K : Frag) (f : Bool → Bool) : R2 := fun x y H Q => ∃ p q vs, x = .ref p ∧ y = .ref q ∧ SqL K H p vs ∧ SqL K H q [] ∧ Q (.bl (f vs.isEmpty)) H
theorem op_eqE (hu : X.A.units + 64 < cLine) : OpR X (compareOp .Eq) (rEE X.K id) := by
  intro pins s σ H x y v u Q I rx ry h
  obtain ⟨p, q, vs, rfl, rfl, hp, hq, k⟩ := h
  cases rx
  cases ry
  obtain ⟨as, va, la, _⟩ := I.list hp
  obtain ⟨bs, vb, lb, _⟩ := I.list hq
  cases vb
  cases va with
  | nil => exact SeqAt.eq_listAt (e := fun _ => true) la.isList lb.isList rfl (by omega) (fun j h => absurd h (Nat.not_lt_zero _)) ⟨.bl _, H, I, rfl, k⟩
  | cons r rr => exact SeqAt.eq_list_lengthsAt la.isList lb.isList rfl (by omega) ⟨.bl _, H, I, rfl, k⟩
theorem op_neE (hu : X.A.units + 64 < cLine) : OpR X (compareOp .NotEq) (rEE X.K not) := by
  intro pins s σ H x y v u Q I rx ry h
  obtain ⟨p, q, vs, rfl, rfl, hp, hq, k⟩ := h
  cases rx
  cases ry
  obtain ⟨as, va, la, _⟩ := I.list hp
  obtain ⟨bs, vb, lb, _⟩ := I.list hq
  cases vb
  cases va with
  | nil => exact SeqAt.RcNeAt.lists (e := fun _ => true) la.isList lb.isList rfl (by omega) (fun j h => absurd h (Nat.not_lt_zero _)) _ _ _ _ ⟨.bl _, H, I, rfl, k⟩
  | cons r rr => exact SeqAt.RcNeAt.lists_lengths la.isList lb.isList rfl (by omega) _ _ _ _ ⟨.bl _, H, I, rfl, k⟩
/-- a dict and an empty one -/
def rEK (f : Bool → Bool) : R2 := fun x y H Q => ∃ p q ks, x = .ref p ∧ y = .ref q ∧ H p = some (.dK ks) ∧ H q = some (.dK []) ∧ Q (.bl (f ks.isEmpty)) H
theorem op_eqK (hu : X.A.units + 64 < cLine) : OpR X (compareOp .Eq) (rEK id) := by
  intro pins s σ H x y v u Q I rx ry h
  obtain ⟨a, b, ks, rfl, rfl, ea, eb, q⟩ := h
  obtain rfl : v = Value.ref a := rx
  obtain rfl : u = Value.ref b := ry
  obtain ⟨_, ya, va, ra, da⟩ := (show ObjOk X.prog X.w H s.heap a (.dK ks) from I.hok a _ ea)
  obtain ⟨_, yb, vb, rb, db⟩ := (show ObjOk X.prog X.w H s.heap b (.dK []) from I.hok b _ eb)
  have hb : vb = [] := by cases rb; rfl
  subst hb
  have hl : va.length = ks.length := ra.length.symm
  refine PySem.W.keq_eq (knd := mixKind X.prog X.w) (r := true) ya yb da db (by omega) (fun e => ?_) ?_
  · have : va = [] := List.length_eq_zero_iff.mp e
    subst this
    exact .nil
  · refine L2.fin_bl I q ?_
    cases ks <;> simp at hl <;> simp [hl]
theorem op_neK (hu : X.A.units + 64 < cLine) : OpR X (compareOp .NotEq) (rEK not) := by
  intro pins s σ H x y v u Q I rx ry h
  obtain ⟨a, b, ks, rfl, rfl, ea, eb, q⟩ := h
  obtain rfl : v = Value.ref a := rx
  obtain rfl : u = Value.ref b := ry
  obtain ⟨_, ya, va, ra, da⟩ := (show ObjOk X.prog X.w H s.heap a (.dK ks) from I.hok a _ ea)
  obtain ⟨_, yb, vb, rb, db⟩ := (show ObjOk X.prog X.w H s.heap b (.dK []) from I.hok b _ eb)
  have hb : vb = [] := by cases rb; rfl
  subst hb
  have hl : va.length = ks.length := ra.length.symm
  refine PySem.W.keq_ne (knd := mixKind X.prog X.w) (r := true) ya yb da db (by omega) (fun e => ?_) ?_
  · have : va = [] := List.length_eq_zero_iff.mp e
    subst this
    exact .nil
  · refine L2.fin_bl I q ?_
    cases ks <;> simp at hl <;> simp [hl]
theorem DicR.emp {K : Frag} {H : Hp} {kvs : List (D × D)} {ks : List (Key × V)} (r : DicR K H kvs ks) : ks.isEmpty = kvs.isEmpty := by cases r <;> rfl
theorem opOr {f : Value → Value → Sem Value} {r r' : R2} (h : OpR X f r) (h' : OpR X f r') : OpR X f (fun x y H Q => r x y H Q ∨ r' x y H Q) := fun pins s σ H x y v u Q I rx ry w =>
  w.elim (h pins s σ H x y v u Q I rx ry) (h' pins s σ H x y v u Q I rx ry)
theorem eqBs_nil (a : List D) : eqBs a [] = a.isEmpty := by cases a <;> rfl
theorem RepL.emp {K : Frag} {H : Hp} : ∀ {ds : List D} {vs : List V}, RepL K H ds vs → vs.isEmpty = ds.isEmpty
  | [], _, r => by cases r; rfl
  | _ :: _, _, ⟨_, _, e, _⟩ => by subst e; rfl
theorem eqD_rd {a b : Vx} {x y : V} {S : Hs} {H : Hp} {P : Bool → Prop} (hr : Rel X.K cx S H) (ra : RepX X.K H S a x) (rb : RepX X.K H S b y) (w : eqD a b S P) :
    (∃ d e, Dp X.K H x d ∧ Dp X.K H y e ∧ SeqAt.shaped d = true ∧ SeqAt.shaped e = true ∧ P (PyData.eqv d e)) ∨ (∃ p q vs, x = .ref p ∧ y = .ref q ∧ SqL X.K H p vs ∧ SqL X.K H q [] ∧ P vs.isEmpty) ∨ ∃ p q ks, x = .ref p ∧ y = .ref q ∧ H p = some (.dK ks) ∧ H q = some (.dK []) ∧ P ks.isEmpty := by
  have lists : (view a S fun c => view b S fun c' => eqC c c' P) → (∃ d e, Dp X.K H x d ∧ Dp X.K H y e ∧ SeqAt.shaped d = true ∧ SeqAt.shaped e = true ∧ P (PyData.eqv d e)) ∨ (∃ p q vs, x = .ref p ∧ y = .ref q ∧ SqL X.K H p vs ∧ SqL X.K H q [] ∧ P vs.isEmpty) ∨ ∃ p q ks, x = .ref p ∧ y = .ref q ∧ H p = some (.dK ks) ∧ H q = some (.dK []) ∧ P ks.isEmpty := fun w => by
    obtain ⟨c, w, hc⟩ := view_of hr ra w
    obtain ⟨c', w, hc'⟩ := view_of hr rb w
    cases c <;> cases c' <;> first | exact w.elim | skip
    rotate_left
    · obtain ⟨p, ks, rfl, hp, r1⟩ := hc
      obtain ⟨q, us, rfl, hq, r2⟩ := hc'
      obtain ⟨w1, w2⟩ := w
      subst w1
      cases r2
      exact .inr (.inr ⟨p, q, ks, rfl, rfl, hp, hq, by rw [DicR.emp r1]; exact w2⟩)
    obtain ⟨p, vs, rfl, hp, r1⟩ := hc
    obtain ⟨q, us, rfl, hq, r2⟩ := hc'
    obtain ⟨w1, w2⟩ := w
    rcases w1 with e | w1
    · subst e
      cases r2
      refine .inr (.inl ⟨p, q, vs, rfl, rfl, SqL.of hp, SqL.of hq, ?_⟩)
      rw [RepL.emp r1, ← eqBs_nil]
      exact w2
    refine .inl ⟨_, _, .lst (SqL.of hp) (RepL.dp 60 _ _ w1.1 r1), .lst (SqL.of hq) (RepL.dp 60 _ _ w1.2 r2), plns_shaped w1.1, plns_shaped w1.2, ?_⟩
    have e := eqBs_eqv _ _ 60 60 w1.1 w1.2
    show P (PyData.eqvAll _ _)
    rw [← e]
    exact w2
  unfold eqD at w
  split at w
  · exact lists w
  · exact w.elim
  · refine .inl ⟨_, _, RepV.dp 60 _ _ w.1 ra, RepV.dp 60 _ _ w.2.1 rb, pln_shaped w.1, pln_shaped w.2.1, ?_⟩
    rw [← eqB_eqv _ _ 60 60 w.1 w.2.1]
    exact w.2.2
  · exact lists w
mutual
theorem resP_dp {K : Frag} {cx : Cls2} {S : Hs} {H : Hp} (hr : Rel K cx S H) : ∀ (n : Nat) (d : D) (v : V) (p : PyData), resP S n d = some p → RepV K H d v → Dp K H v p
  | n, .non, v, p, e, r => by unfold resP at e; cases e; cases r; exact .non
  | n, .bl b, v, p, e, r => by unfold resP at e; cases e; cases r; exact .bl b
  | n, .int i, v, p, e, r => by unfold resP at e; cases e; cases r; exact .int i
  | n, .str s, v, p, e, r => by unfold resP at e; cases e; cases r; exact .str _
  | 0, .tup ds, v, p, e, _ => by unfold resP at e; cases e
  | 0, .ref a, v, p, e, _ => by unfold resP at e; cases e
  | n + 1, .tup ds, v, p, e, r => by
    unfold resP at e
    obtain ⟨ps, e1, rfl⟩ := Option.map_eq_some_iff.mp e
    obtain ⟨t, vs, rfl, q, r⟩ := r
    exact .tup q (resPs_dp hr n ds vs ps e1 r)
  | n + 1, .ref a, v, p, e, r => by
    unfold resP at e
    cases r
    split at e
    · rename_i ds ha
      obtain ⟨ps, e1, rfl⟩ := Option.map_eq_some_iff.mp e
      obtain ⟨vs, hv, rv⟩ := hr a _ ha
      exact .lst (SqL.of hv) (resPs_dp hr n ds vs ps e1 rv)
    · cases e
  termination_by n d => (n, sizeOf d)
theorem resPs_dp {K : Frag} {cx : Cls2} {S : Hs} {H : Hp} (hr : Rel K cx S H) : ∀ (n : Nat) (ds : List D) (vs : List V) (ps : List PyData), resPs S n ds = some ps → RepL K H ds vs → DpAll K H vs ps
  | n, [], vs, ps, e, r => by unfold resPs at e; cases e; cases r; exact .nil
  | n, d :: ds, vs, ps, e, r => by
    unfold resPs at e
    obtain ⟨v, vr, rfl, r, rr⟩ := r
    split at e
    · rename_i p ps' e1 e2
      cases e
      exact .cons (resP_dp hr n d v p e1 r) (resPs_dp hr n ds vr ps' e2 rr)
    · cases e
  termination_by n ds => (n, sizeOf ds)
end
theorem resX_dp {S : Hs} {H : Hp} {a : Vx} {x : V} {p : PyData} (hr : Rel X.K cx S H) (ra : RepX X.K H S a x) (e : resX S a = some p) : Dp X.K H x p := by
  cases a with
  | d y => exact resP_dp hr 50 y x p e ra
  | vl ds =>
    obtain ⟨ps, e1, rfl⟩ := Option.map_eq_some_iff.mp e
    obtain ⟨l, vs, rfl, h, _, r⟩ := ra
    exact .lst (SqL.of h) (resPs_dp hr 49 ds vs ps e1 r)
  | bw ds =>
    obtain ⟨ps, e1, rfl⟩ := Option.map_eq_some_iff.mp e
    obtain ⟨l, vs, rfl, h, _, r⟩ := ra
    exact .lst (SqL.of h) (resPs_dp hr 49 ds vs ps e1 r)
  | _ => cases e
theorem eqH_rd {a b : Vx} {x y : V} {S : Hs} {H : Hp} {P : Bool → Prop} (hr : Rel X.K cx S H) (ra : RepX X.K H S a x) (rb : RepX X.K H S b y) (w : eqH a b S P) :
    ∃ d e, Dp X.K H x d ∧ Dp X.K H y e ∧ SeqAt.shaped d = true ∧ SeqAt.shaped e = true ∧ P (PyData.eqv d e) := let ⟨p, q, h1, h2, h3, h4, k⟩ := w; ⟨p, q, resX_dp hr ra h1, resX_dp hr rb h2, h3, h4, k⟩
theorem op2_eqh (hu : X.A.units + 64 < cLine) : OpR X (compareOp .Eq) (r2of X.K cx (op2D .eqh)) := opImp (op_eqD hu) fun x y H Q w => by
  obtain ⟨S, a, b, hr, ra, rb, w⟩ := w
  obtain ⟨d, e, h1, h2, h3, h4, q⟩ := eqH_rd (P := fun k => KVof X.K cx S H Q (.d (.bl k)) S) hr ra rb w
  exact ⟨d, e, h1, h2, h3, h4, fin_bl q hr⟩
theorem op2_neh (hu : X.A.units + 64 < cLine) : OpR X (compareOp .NotEq) (r2of X.K cx (op2D .neh)) := opImp (op_neD hu) fun x y H Q w => by
  obtain ⟨S, a, b, hr, ra, rb, w⟩ := w
  obtain ⟨d, e, h1, h2, h3, h4, q⟩ := eqH_rd (P := fun k => KVof X.K cx S H Q (.d (.bl (!k))) S) hr ra rb w
  exact ⟨d, e, h1, h2, h3, h4, fin_bl q hr⟩
theorem op2_eq (hu : X.A.units + 64 < cLine) : OpR X (compareOp .Eq) (r2of X.K cx (op2D .eq)) := opImp (opOr (op_eqD hu) (opOr (op_eqE hu) (op_eqK hu))) fun x y H Q w => by
  obtain ⟨S, a, b, hr, ra, rb, w⟩ := w
  rcases eqD_rd (P := fun k => KVof X.K cx S H Q (.d (.bl (k))) S) hr ra rb w with ⟨d, e, h1, h2, h3, h4, q⟩ | ⟨p, q, vs, h1, h2, h3, h4, q'⟩ | ⟨p, q, vs, h1, h2, h3, h4, q'⟩
  · exact .inl ⟨d, e, h1, h2, h3, h4, fin_bl q hr⟩
  · exact .inr (.inl ⟨p, q, vs, h1, h2, h3, h4, fin_bl q' hr⟩)
  · exact .inr (.inr ⟨p, q, vs, h1, h2, h3, h4, fin_bl q' hr⟩)
theorem op2_ne (hu : X.A.units + 64 < cLine) : OpR X (compareOp .NotEq) (r2of X.K cx (op2D .ne)) := opImp (opOr (op_neD hu) (opOr (op_neE hu) (op_neK hu))) fun x y H Q w => by
  obtain ⟨S, a, b, hr, ra, rb, w⟩ := w
  rcases eqD_rd (P := fun k => KVof X.K cx S H Q (.d (.bl (!k))) S) hr ra rb w with ⟨d, e, h1, h2, h3, h4, q⟩ | ⟨p, q, vs, h1, h2, h3, h4, q'⟩ | ⟨p, q, vs, h1, h2, h3, h4, q'⟩
  · exact .inl ⟨d, e, h1, h2, h3, h4, fin_bl q hr⟩
  · exact .inr (.inl ⟨p, q, vs, h1, h2, h3, h4, fin_bl q' hr⟩)
  · exact .inr (.inr ⟨p, q, vs, h1, h2, h3, h4, fin_bl q' hr⟩)
theorem isN_rep {K : Frag} {H : Hp} {S : Hs} {a : Vx} {x : V} (r : RepX K H S a x) : (x = .non) ↔ a = .d .non := by
  constructor
  · rintro rfl
    cases a with
    | d y =>
      cases y with
      | non => rfl
      | bl b => cases r
      | int b => cases r
      | str b => cases r
      | ref b => cases r
      | tup b => obtain ⟨_, _, e, _⟩ := r; cases e
    | vl _ => obtain ⟨_, _, e, _⟩ := r; cases e
    | bw _ => obtain ⟨_, _, e, _⟩ := r; cases e
    | fz _ => obtain ⟨_, _, e, _⟩ := r; cases e
    | vd _ => obtain ⟨_, _, e, _⟩ := r; cases e
    | bd _ => obtain ⟨_, _, e, _⟩ := r; cases e
    | st _ => exact r.elim
  · rintro rfl
    exact r
theorem isD_non {a : Vx} {b : Bool} (h : isD a (.d .non) = some b) {K : Frag} {H : Hp} {S : Hs} {x : V} (r : RepX K H S a x) : decide (x = .non) = b := by
  by_cases e : a = .d .non
  · subst e
    cases h
    exact decide_eq_true r
  · have : isD a (.d .non) = some false := by
      cases a with
      | d y => cases y <;> first | rfl | exact absurd rfl e
      | _ => rfl
    rw [this] at h
    cases h
    exact decide_eq_false fun z => e ((isN_rep r).mp z)
theorem is_cases {a b : Vx} {k : Bool} (h : isD a b = some k) : b = .d .non ∨ ∃ p q, a = .d (.bl p) ∧ b = .d (.bl q) ∧ k = decide (p = q) := by
  unfold isD at h
  split at h
  · exact .inl rfl
  · exact .inl rfl
  · cases h; exact .inr ⟨_, _, rfl, rfl, rfl⟩
  · cases h
theorem op2_is : OpR X (compareOp .Is) (r2of X.K cx (op2D .is)) := by
  intro pins s σ H x y v u Q I rx ry w
  obtain ⟨S, a, b, hr, ra, rb, k, e, w⟩ := w
  rcases is_cases e with rfl | ⟨p, q, rfl, rfl, rfl⟩
  · refine op_isN pins s σ H x y v u Q I rx ry ⟨rb, ?_⟩
    rw [isD_non e ra]
    exact fin_bl w hr
  · cases ra
    cases rb
    exact op_isBl pins s σ H _ _ v u Q I rx ry ⟨p, q, rfl, rfl, fin_bl w hr⟩
theorem op2_isnt : OpR X (compareOp .IsNot) (r2of X.K cx (op2D .isnt)) := by
  intro pins s σ H x y v u Q I rx ry w
  obtain ⟨S, a, b, hr, ra, rb, k, e, w⟩ := w
  rcases is_cases e with rfl | ⟨p, q, rfl, rfl, rfl⟩
  · refine op_notN pins s σ H x y v u Q I rx ry ⟨rb, ?_⟩
    rw [isD_non e ra]
    exact fin_bl w hr
  · cases ra
    cases rb
    exact op_notBl pins s σ H _ _ v u Q I rx ry ⟨p, q, rfl, rfl, fin_bl w hr⟩
end
end DL

/-! DL3n: dicts whose keys are tuples (of any depth). -/
namespace DL
open PySem L2 PySem.Spec PyProof.Rows
/-! ### keys -/
mutual
theorem nk_depth : ∀ (n : Nat) (d : D), pl n d = true → (nkD d).depth ≤ n
  | n, .non, _ => by simp [nkD, NestedKey.depth]
  | n, .bl b, _ => by simp [nkD, NestedKey.depth]
  | n, .int i, _ => by simp [nkD, NestedKey.depth]
  | n, .str s, _ => by simp [nkD, NestedKey.depth]
  | n, .ref a, h => by cases n <;> simp [pl] at h
  | 0, .tup ds, h => by simp [pl] at h
  | n + 1, .tup ds, h => by
    have := nks_depth n ds (by simpa [pl] using h)
    simp only [nkD, NestedKey.depth]; omega
theorem nks_depth : ∀ (n : Nat) (ds : List D), pls n ds = true → NestedKey.depthAll (nkDs ds) ≤ n
  | n, [], _ => by simp [nkDs, NestedKey.depthAll]
  | n, d :: ds, h => by
    simp only [pls, Bool.and_eq_true] at h
    have h1 := nk_depth n d h.1
    have h2 := nks_depth n ds h.2
    simp only [nkDs, NestedKey.depthAll]; omega
end
theorem nk_num {i j : Int} : decide ((NestedKey.num i) = .num j) = decide (i = j) := by
  by_cases e : i = j
  · subst e; simp
  · rw [decide_eq_false e, decide_eq_false fun z => e (NestedKey.num.inj z)]
theorem nk_text {i j : List Nat} : decide ((NestedKey.text (sv i)) = .text (sv j)) = decide (i = j) := by
  by_cases e : i = j
  · subst e; simp
  · rw [decide_eq_false e, decide_eq_false fun z => e (by have := congrArg (fun z : Str => z.cps.toList) (NestedKey.text.inj z); simpa using this)]
mutual
theorem nk_eq : ∀ (n m : Nat) (a b : D), pl n a = true → pl m b = true → eqB a b = decide (nkD a = nkD b)
  | n, m, .non, b, _, hb => by cases b <;> first | rfl | (simp [nkD, eqB]; done) | (cases m <;> simp [pl] at hb)
  | n, m, .bl x, b, _, hb => by
    cases b with
    | bl y => show (x == y) = decide ((NestedKey.num _) = .num _); rw [nk_num]; cases x <;> cases y <;> rfl
    | int j => show decide _ = decide ((NestedKey.num _) = .num _); rw [nk_num]
    | ref a => cases m <;> simp [pl] at hb
    | _ => simp [nkD, eqB]
  | n, m, .int x, b, _, hb => by
    cases b with
    | bl y => show decide _ = decide ((NestedKey.num _) = .num _); rw [nk_num]
    | int j => show decide _ = decide ((NestedKey.num _) = .num _); rw [nk_num]
    | ref a => cases m <;> simp [pl] at hb
    | _ => simp [nkD, eqB]
  | n, m, .str x, b, _, hb => by
    cases b with
    | str y => show decide _ = decide ((NestedKey.text _) = .text _); rw [nk_text]
    | ref a => cases m <;> simp [pl] at hb
    | _ => simp [nkD, eqB]
  | n, m, .ref a, b, ha, _ => by cases n <;> simp [pl] at ha
  | 0, m, .tup as, b, ha, _ => by simp [pl] at ha
  | n + 1, m, .tup as, b, ha, hb => by
    cases b with
    | tup bs =>
      cases m with
      | zero => simp [pl] at hb
      | succ m =>
        have := nks_eq n m as bs (by simpa [pl] using ha) (by simpa [pl] using hb)
        show eqBs as bs = decide ((NestedKey.tup (nkDs as)) = .tup (nkDs bs))
        rw [this]
        by_cases e : nkDs as = nkDs bs
        · rw [decide_eq_true e, decide_eq_true (by rw [e])]
        · rw [decide_eq_false e, decide_eq_false fun z => e (NestedKey.tup.inj z)]
    | ref a => cases m <;> simp [pl] at hb
    | _ => simp [nkD, eqB]
theorem nks_eq : ∀ (n m : Nat) (a b : List D), pls n a = true → pls m b = true → eqBs a b = decide (nkDs a = nkDs b)
  | n, m, [], [], _, _ => rfl
  | n, m, [], y :: b, _, _ => by simp [nkDs, eqBs]
  | n, m, x :: a, [], _, _ => by simp [nkDs, eqBs]
  | n, m, x :: a, y :: b, ha, hb => by
    simp only [pls, Bool.and_eq_true] at ha hb
    have h1 := nk_eq n m x y ha.1 hb.1
    have h2 := nks_eq n m a b ha.2 hb.2
    show (eqB x y && eqBs a b) = decide (nkD x :: nkDs a = nkD y :: nkDs b)
    rw [h1, h2]
    by_cases e1 : nkD x = nkD y
    · by_cases e2 : nkDs a = nkDs b
      · rw [decide_eq_true e1, decide_eq_true e2, decide_eq_true (by rw [e1, e2])]; rfl
      · rw [decide_eq_true e1, decide_eq_false e2, decide_eq_false fun z => e2 (List.cons.inj z).2]; rfl
    · rw [decide_eq_false e1, decide_eq_false fun z => e1 (List.cons.inj z).1]; rfl
end
theorem keyN_pl {d : D} (h : keyN d = true) : ∃ ds, d = .tup ds ∧ pl 8 d = true := by
  cases d <;> first | exact ⟨_, rfl, h⟩ | cases h
theorem keyN_eq {a b : D} (ha : keyN a = true) (hb : keyN b = true) : eqB a b = decide (nkD a = nkD b) := by
  obtain ⟨_, _, h1⟩ := keyN_pl ha
  obtain ⟨_, _, h2⟩ := keyN_pl hb
  exact nk_eq 8 8 a b h1 h2
section
variable {X : Cx} {pins : List (Addr × Obj)} {σ : L2.St} {H : Hp} {s : Shared}
mutual
theorem rep_nested (I : Inv X pins σ H s) : ∀ (n : Nat) (d : D) (v : V) (u : Value), pl n d = true → RepV X.K H d v → RelV v u → NestedIs s.heap (nkD d) u
  | _, .non, _, u, _, r, ru => by cases r; cases ru; exact .none
  | _, .bl b, _, u, _, r, ru => by cases r; cases ru; exact .bool rfl
  | _, .int i, _, u, _, r, ru => by cases r; obtain ⟨t, rfl⟩ := ru; exact .int i t
  | _, .str x, _, u, _, r, ru => by cases r; obtain ⟨t, rfl⟩ := ru; exact .text _ t
  | n, .ref a, _, u, h, _, _ => by cases n <;> simp [pl] at h
  | 0, .tup ds, _, u, h, _, _ => by simp [pl] at h
  | n + 1, .tup ds, _, u, h, ⟨t, vs, e, q, r⟩, ru => by
    subst e
    cases ru
    obtain ⟨its, rv, ⟨o, ho, hc, m, hd⟩, _⟩ := I.tuple q
    exact .tup ho hc hd (reps_nested I n ds vs _ (by simpa [pl] using h) r rv)
theorem reps_nested (I : Inv X pins σ H s) : ∀ (n : Nat) (ds : List D) (vs : List V) (us : List Value), pls n ds = true → RepL X.K H ds vs → Vals vs us → NestedAll s.heap (nkDs ds) us
  | _, [], _, us, _, r, rv => by cases r; cases rv; exact .nil
  | n, d :: ds, _, us, h, ⟨v, vr, e, r, rr⟩, rv => by
    subst e
    cases rv with
    | cons r1 r2 =>
      simp only [pls, Bool.and_eq_true] at h
      exact .cons (rep_nested I n d v _ h.1 r r1) (reps_nested I n ds vr _ h.2 rr r2)
end
/-- the value is the key -/
theorem key_is (I : Inv X pins σ H s) {d : D} {v : V} {u : Value} (h : keyN d = true) (r : RepV X.K H d v) (ru : RelV v u) : ∃ b, v = .ref b ∧ u = .ref b ∧ (nestedKind X.prog X.w).is s.heap (nkD d) b := by
  obtain ⟨ds, rfl, hp⟩ := keyN_pl h
  have hr := rep_nested I 8 _ v u hp r ru
  obtain ⟨t, vs, rfl, q, _⟩ := r
  cases ru
  exact ⟨t, rfl, rfl, hr, nk_depth 8 _ hp⟩
/-! ### a dict of them -/
variable {w : World} {a : Addr} {kvs : List (D × D)} {xs : List NE}
theorem DnR.get {K : Frag} {x : D} (hx : keyN x = true) : ∀ {kvs : List (D × D)} {xs : List NE}, DnR K H kvs xs → (∀ y, dget kvs x = some y → ∃ p v, atKey xs (nkD x) = some p ∧ RelV v p.2 ∧ RepV K H y v) ∧ (dget kvs x = none → atKey xs (nkD x) = none)
  | _, _, .nil => ⟨(fun y e => by cases e), fun _ => rfl⟩
  | (k, y) :: r, (k', b, u) :: r', .cons h t => by
    obtain ⟨h1, h2, h3, v, h4, h5⟩ := h
    have ih := DnR.get hx t
    have h2 : k' = nkD k := h2
    have e : eqB k x = decide (nkD k = nkD x) := keyN_eq h1 hx
    by_cases q : nkD k = nkD x
    · rw [decide_eq_true q] at e
      have e1 : dget ((k, y) :: r) x = some y := by unfold dget; rw [e]
      have e2 : atKey ((k', b, u) :: r') (nkD x) = some (b, u) := by simp [atKey, List.find?_cons, h2, q]
      rw [e1, e2]
      exact ⟨fun z hz => ⟨_, v, rfl, h4, by cases hz; exact h5⟩, fun z => by cases z⟩
    · rw [decide_eq_false q] at e
      have e1 : dget ((k, y) :: r) x = dget r x := by show (match eqB k x with | true => some y | false => dget r x) = _; rw [e]
      have e2 : atKey ((k', b, u) :: r') (nkD x) = atKey r' (nkD x) := by simp [atKey, List.find?_cons, h2, q]
      rw [e1, e2]
      exact ih
theorem DnR.has {K : Frag} {x : D} (hx : keyN x = true) {kvs : List (D × D)} {xs : List NE} (r : DnR K H kvs xs) : dhas kvs x = (atKey xs (nkD x)).isSome := by
  unfold dhas
  cases e : dget kvs x with
  | none => rw [(r.get hx).2 e]; rfl
  | some y => obtain ⟨p, v, h, _⟩ := (r.get hx).1 y e; rw [h]; rfl
theorem DnR.put {K : Frag} {x y : D} {b : Addr} {v : V} {u : Value} (hx : keyN x = true) (rx : RepV K H x (.ref b)) (ry : RepV K H y v) (rv : RelV v u) {kvs : List (D × D)} {xs : List NE} (r : DnR K H kvs xs) : DnR K H (dput kvs x y) (storedH xs (nkD x) b u) := by
  have e := r.has hx
  unfold dput storedH
  rw [← e]
  cases dhas kvs x with
  | true =>
    rw [if_pos rfl]
    show DnR K H (kvs.map _) _
    clear e
    induction r with
    | nil => exact .nil
    | @cons p q l1 l2 h t ih =>
      obtain ⟨k, z⟩ := p
      obtain ⟨k', b', z'⟩ := q
      obtain ⟨h1, h2, h3, v', h4, h5⟩ := h
      have h2 : k' = nkD k := h2
      have e : eqB k x = decide (nkD k = nkD x) := keyN_eq h1 hx
      refine .cons ?_ ih
      by_cases q : nkD k = nkD x
      · have e1 : putAt (nkD x) u (k', b', z') = (k', b', u) := by unfold putAt; rw [if_pos (h2.trans q)]
        show DnE K H (match eqB k x with | true => (k, y) | false => (k, z)) (putAt (nkD x) u (k', b', z'))
        rw [e, decide_eq_true q, e1]
        exact ⟨h1, h2, h3, v, rv, ry⟩
      · have e1 : putAt (nkD x) u (k', b', z') = (k', b', z') := by unfold putAt; rw [if_neg fun z => q (h2.symm.trans z)]
        show DnE K H (match eqB k x with | true => (k, y) | false => (k, z)) (putAt (nkD x) u (k', b', z'))
        rw [e, decide_eq_false q, e1]
        exact ⟨h1, h2, h3, v', h4, h5⟩
  | false =>
    rw [if_neg (by simp)]
    show DnR K H (kvs ++ [(x, y)]) _
    exact Paired.snoc r ⟨hx, rfl, rx, v, rv, ry⟩
theorem DnR.length {K : Frag} {kvs : List (D × D)} {xs : List NE} (r : DnR K H kvs xs) : kvs.length = xs.length := Paired.length r
theorem stored_len {xs : List NE} {k : NestedKey} {b : Addr} {u : Value} : (storedH xs k b u).length ≤ xs.length + 1 := by
  unfold storedH
  split <;> simp
/-- what may be read as a dict of tuples -/
def DnAt (w : World) (H : Hp) (a : Addr) (xs : List NE) : Prop := H a = some (dnO w a xs) ∨ ∃ o, H a = some (.frz o (dnO w a xs))
theorem dn_obj (I : Inv X pins σ H s) (h : DnAt X.w H a xs) : dnP X.w a xs s.heap := by
  rcases h with h | ⟨o, h⟩
  · exact (I.hok a _ h).1
  · exact (I.hok a _ h).2.1
theorem dn_of (I : Inv X pins σ H s) (h : DnAt X.w H a xs) (r : DnOk X.K H a kvs xs) : s.heap.DictOfH (nestedKind X.prog X.w) a xs := by
  obtain ⟨o, es, ep, h1, h2, h3, h4⟩ := dn_obj I h
  refine ⟨o, es, ep, h1, h2, h3, h4, fun x hx => ?_, r.nd⟩
  have : ∀ {kvs : List (D × D)} {xs : List NE}, DnR X.K H kvs xs → ∀ x ∈ xs, (nestedKind X.prog X.w).is s.heap x.1 x.2.1 := by
    intro kvs xs r
    induction r with
    | nil => intro x hx; cases hx
    | cons h _ ih =>
      intro x hx
      rcases List.mem_cons.mp hx with rfl | hx
      · obtain ⟨h1, h2, h3, _⟩ := h
        obtain ⟨b, e1, e2, h⟩ := key_is I h1 h3 (u := .ref x.2.1) rfl
        cases e1
        rw [h2]; exact h
      · exact ih x hx
  exact this r.r x hx
variable {A : Around} {E : Value → Shared → Prop} {u : Value} {v : V} {x y : D}
theorem dn_in {Q : Value → Shared → Prop} (hu : A.units + 60 < cLine) (I : Inv X pins σ H s) (h : DnAt X.w H a xs) (r : DnOk X.K H a kvs xs) (hx : keyN x = true) (rx : RepV X.K H x v) (ru : RelV v u) (q : ∀ s', Inv X pins σ H s' → Q (.bool (dhas kvs x)) s') :
    wpAny (model X.prog X.w) A (compareOp .In u (.ref a)) Q E s := by
  obtain ⟨b, rfl, rfl, hk⟩ := key_is I hx rx ru
  refine wpAny_in_heap (show A.units + 1 + 8 < cLine by omega) hk r.m (dn_of I h r) ?_
  rw [← r.r.has hx]
  exact q _ (I.tok _)
theorem dn_notIn {Q : Value → Shared → Prop} (hu : A.units + 60 < cLine) (I : Inv X pins σ H s) (h : DnAt X.w H a xs) (r : DnOk X.K H a kvs xs) (hx : keyN x = true) (rx : RepV X.K H x v) (ru : RelV v u) (q : ∀ s', Inv X pins σ H s' → Q (.bool (!dhas kvs x)) s') :
    wpAny (model X.prog X.w) A (compareOp .NotIn u (.ref a)) Q E s := by
  obtain ⟨b, rfl, rfl, hk⟩ := key_is I hx rx ru
  refine wpAny_notIn_heap (show A.units + 1 + 8 < cLine by omega) hk r.m (dn_of I h r) ?_
  rw [← r.r.has hx]
  exact q _ (I.tok _)
theorem dn_getItem {Q : Value → Shared → Prop} (hu : A.units + 60 < cLine) (I : Inv X pins σ H s) (h : DnAt X.w H a xs) (r : DnOk X.K H a kvs xs) (hx : keyN x = true) (rx : RepV X.K H x v) (ru : RelV v u) (e : dget kvs x = some y)
    (q : ∀ zv w' s', Inv X pins σ H s' → RelV zv w' → RepV X.K H y zv → Q w' s') : wpAny (model X.prog X.w) A (getItem (.ref a) u) Q E s := by
  obtain ⟨b, rfl, rfl, hk⟩ := key_is I hx rx ru
  obtain ⟨p, zv, h1, h2, h3⟩ := (r.r.get hx).1 y e
  exact wpAny_getItem_heap (show A.units + 1 + 8 < cLine by omega) hk (dn_of I h r) h1 (q zv _ _ (I.tok _) h2 h3)
theorem dn_typeIs (I : Inv X pins σ H s) (h : DnAt X.w H a xs) : s.TypeIs (.ref a) "dict" := by
  obtain ⟨o, es, ep, h1, h2, _⟩ := dn_obj I h
  exact ⟨o, h1, h2.1⟩
theorem dnP_ext {w : World} {a : Addr} {xs : List NE} : ∀ h1 h2 : Heap, dnP w a xs h1 → (∀ o, h1.get? a = some o → h2.get? a = some o) → dnP w a xs h2 := fun h1 h2 ⟨o, es, ep, e, r⟩ k => ⟨o, es, ep, k _ e, r⟩
theorem dn_okO {P : Program} {w : World} {H : Hp} {h : Heap} {a : Addr} {xs : List NE} (p : dnP w a xs h) : ObjOk P w H h a (dnO w a xs) := ⟨p, let ⟨o, _, _, e, _⟩ := p; ⟨o, e⟩, dnP_ext⟩
theorem dn_tups {K : Frag} {H : Hp} {w : World} {a : Addr} {xs : List NE} {h : HO} (hp : H a = some (dnO w a xs)) : TupS K H (upd H a h) := tupS_upd fun o e => by rw [hp] at e; cases e; rfl
theorem dn_setItem {Q : Unit → Shared → Prop} {uy : Value} {vy : V} (hu : A.units + 60 < cLine) (I : Inv X pins σ H s) (h : H a = some (dnO X.w a xs)) (r : DnOk X.K H a kvs xs) (hl : kvs.length < sizeLine) (hx : keyN x = true) (rx : RepV X.K H x v) (ru : RelV v u) (ry : RepV X.K H y vy) (ruy : RelV vy uy)
    (q : ∀ xs' s', Inv X pins σ (upd H a (dnO X.w a xs')) s' → DnOk X.K (upd H a (dnO X.w a xs')) a (dput kvs x y) xs' → Q () s') : wpAny (model X.prog X.w) A (setItem (.ref a) u uy) Q E s := by
  obtain ⟨b, rfl, rfl, hk⟩ := key_is I hx rx ru
  refine wpAny_setItem_heap (hsz := r.z) (show A.units + 1 + 8 < cLine by omega) hk (dn_of I (.inl h) r) fun h' dd hs => ?_
  obtain ⟨o, es, ep, h1, h2, h3, h4, _, h5⟩ := dd
  have p : dnP X.w a (storedH xs (nkD x) b uy) h' := ⟨o, es, ep, h1, h2, h3, h4⟩
  refine q _ _ (d_write I (by rw [h]; exact True.intro) hs ⟨o, h1⟩ (dn_okO p)) ?_
  refine DnOk.keep (dn_tups h) ⟨r.r.put hx rx ry ruy, h5, ?_, r.m⟩
  have := stored_len (xs := xs) (k := nkD x) (b := b) (u := uy)
  have := r.r.length
  omega
/-- a new one -/
theorem pe_dn {pos : Pos} : PE X (.Dict [] [] pos) (fun _ H Q => ∀ p, H p = none → (p == sysModules) = false → Q (.ref p) (upd H p (dnO X.w p []))) := ⟨fun pins s σ H Q I h => by
  have hb : sysModules < s.heap.objs.size := Inv.big I
  exact wpAny_Dict_empty ⟨.ref s.heap.objs.size, _, I.laid (a := s.heap.objs.size) (o := dnO X.w s.heap.objs.size []) (t' := s.toks) (fun _ _ q => Heap.get?_push_of_some _ q) (Nat.le_refl _) (dn_okO ⟨_, #[], 0, Heap.get?_push_size _ rfl, ⟨rfl, rfl, rfl⟩, rfl, rfl⟩), rfl,
    h _ (I.hok.fresh (Nat.le_refl _)) (beq_eq_false_iff_ne.mpr (Nat.ne_of_gt hb))⟩⟩
end
end DL

/-! DL4: the operators are sound: in, subscripts, calls of built-ins, slices, stores. -/
namespace DL
open PySem L2 PySem.Spec PyProof.Rows
/-! ### dicts -/
def keyK : D → Key
  | .int i => .inl i
  | .str s => .inr (sv s)
  | _ => .inl 0
theorem KeyR.of {d : D} {k : Key} (h : KeyR d k) : keyD d = true ∧ k = keyK d := by
  cases d <;> first | exact h.elim | exact ⟨rfl, h⟩
theorem keyR_mk {d : D} (h : keyD d = true) : KeyR d (keyK d) := by
  cases d <;> first | rfl | cases h
theorem eqB_key {a b : D} (h : keyD a = true) (h' : keyD b = true) : eqB a b = decide (keyK a = keyK b) := by
  cases a <;> first | cases h | skip
  · cases b <;> first | cases h' | skip
    · rename_i i j
      show decide (i = j) = decide ((Sum.inl i : Key) = Sum.inl j)
      by_cases e : i = j
      · subst e; simp
      · rw [decide_eq_false e, decide_eq_false fun z => e (Sum.inl.inj z)]
    · rename_i i j
      show false = decide ((Sum.inl i : Key) = Sum.inr _)
      exact (decide_eq_false fun z => by cases z).symm
  · cases b <;> first | cases h' | skip
    · rename_i i j
      show false = decide ((Sum.inr _ : Key) = Sum.inl j)
      exact (decide_eq_false fun z => by cases z).symm
    · rename_i i j
      show decide (i = j) = decide ((Sum.inr (sv i) : Key) = Sum.inr (sv j))
      by_cases e : i = j
      · subst e; simp
      · rw [decide_eq_false e, decide_eq_false fun z => e (by have := congrArg (fun z : Str => z.cps.toList) (Sum.inr.inj z); simpa using this)]
theorem key_rel {K : Frag} {H : Hp} {x : D} {v : V} (h : keyD x = true) (r : RepV K H x v) : v = kV (keyK x) := by
  cases x <;> first | (cases h; done) | exact r
section
variable {K : Frag} {H : Hp}
theorem DicR.get {x : D} (hx : keyD x = true) : ∀ {kvs : List (D × D)} {ks : List (Key × V)}, DicR K H kvs ks → (∀ y, dget kvs x = some y → ∃ v, valV ks (keyK x) = some v ∧ RepV K H y v) ∧ (dget kvs x = none → valV ks (keyK x) = none)
  | _, _, .nil => ⟨(fun y e => by cases e), fun _ => rfl⟩
  | (k, y) :: r, (k', v) :: r', .cons h t => by
    obtain ⟨hk, hv⟩ := h
    obtain ⟨h1, h2⟩ := KeyR.of hk
    have ih := DicR.get hx t
    have e : eqB k x = decide (keyK k = keyK x) := eqB_key h1 hx
    have h2 : k' = keyK k := h2
    by_cases q : keyK k = keyK x
    · rw [decide_eq_true q] at e
      have e1 : dget ((k, y) :: r) x = some y := by unfold dget; rw [e]
      have e2 : valV ((k', v) :: r') (keyK x) = some v := valV_pos (show k' = keyK x from h2.trans q)
      rw [e1, e2]
      exact ⟨fun z hz => ⟨v, rfl, by cases hz; exact hv⟩, fun z => by cases z⟩
    · rw [decide_eq_false q] at e
      have e1 : dget ((k, y) :: r) x = dget r x := by show (match eqB k x with | true => some y | false => dget r x) = _; rw [e]
      have e2 : valV ((k', v) :: r') (keyK x) = valV r' (keyK x) := valV_neg (show ¬ k' = keyK x from fun z => q (h2.symm.trans z))
      rw [e1, e2]
      exact ih
theorem DicR.has {x : D} (hx : keyD x = true) {kvs : List (D × D)} {ks : List (Key × V)} (r : DicR K H kvs ks) : dhas kvs x = (valV ks (keyK x)).isSome := by
  unfold dhas
  cases e : dget kvs x with
  | none => rw [(r.get hx).2 e]; rfl
  | some y => obtain ⟨v, h, _⟩ := (r.get hx).1 y e; rw [h]; rfl
theorem DicR.length {kvs : List (D × D)} {ks : List (Key × V)} (r : DicR K H kvs ks) : kvs.length = ks.length := Paired.length r
theorem DicR.put {x y : D} {v : V} (hx : keyD x = true) (ry : RepV K H y v) {kvs : List (D × D)} {ks : List (Key × V)} (r : DicR K H kvs ks) : DicR K H (dput kvs x y) (putK ks (keyK x) v) := by
  have e := r.has hx
  unfold dput putK
  rw [valV_any, ← e]
  cases dhas kvs x with
  | true =>
    rw [if_pos rfl]
    show DicR K H (kvs.map _) _
    clear e
    induction r with
    | nil => exact .nil
    | @cons p q l1 l2 h t ih =>
      obtain ⟨k, z⟩ := p
      obtain ⟨k', z'⟩ := q
      obtain ⟨h1, h2⟩ := KeyR.of h.1
      have h2 : k' = keyK k := h2
      have e : eqB k x = decide (keyK k = keyK x) := eqB_key h1 hx
      refine .cons ?_ ih
      show KeyR (match eqB k x with | true => (k, y) | false => (k, z)).1 (if k' = keyK x then (k', v) else (k', z')).1 ∧ RepV K H (match eqB k x with | true => (k, y) | false => (k, z)).2 (if k' = keyK x then (k', v) else (k', z')).2
      by_cases q : keyK k = keyK x
      · rw [e, decide_eq_true q, if_pos (show k' = keyK x from h2.trans q)]
        exact ⟨h.1, ry⟩
      · rw [e, decide_eq_false q, if_neg (show ¬ k' = keyK x from fun z => q (h2.symm.trans z))]
        exact h
  | false =>
    rw [if_neg (by simp)]
    show DicR K H (kvs ++ [(x, y)]) _
    exact Paired.snoc r ⟨keyR_mk hx, ry⟩
theorem dput_length (kvs : List (D × D)) (x y : D) : (dput kvs x y).length ≤ kvs.length + 1 := by
  unfold dput
  split <;> simp
end
section
variable {X : Cx} {cx : Cls2}
theorem flat_rel {K : Frag} {H : Hp} {x : D} {v : V} (h : flatD x = true) (r : RepV K H x v) : flatV v = true := by
  cases x <;> first | (cases h; done) | (cases r; rfl)
theorem flats_rel {K : Frag} {H : Hp} : ∀ {ds : List D} {vs : List V}, ds.all flatD = true → RepL K H ds vs → vs.all flatV = true
  | [], _, _, e => by cases e; rfl
  | d :: ds, _, h, ⟨v, vr, e, r, rr⟩ => by
    subst e
    rw [List.all_cons, Bool.and_eq_true] at h
    rw [List.all_cons, flat_rel h.1 r, flats_rel h.2 rr]; rfl
theorem eqV_eqB {K : Frag} {H : Hp} {a b : D} {v u : V} (ha : flatD a = true) (hb : flatD b = true) (ra : RepV K H a v) (rb : RepV K H b u) : eqV v u = eqB a b := by
  cases a <;> first | (cases ha; done) | skip
  all_goals cases b <;> first | (cases hb; done) | skip
  all_goals cases ra
  all_goals cases rb
  all_goals first
    | rfl
    | (simp [eqV, eqB, Bool.beq_eq_decide_eq]; done)
    | (show (sv _ == sv _) = decide _; exact sv_inj)
theorem inV_any {K : Frag} {H : Hp} {x : D} {v : V} (hx : flatD x = true) (rx : RepV K H x v) : ∀ {ds : List D} {vs : List V}, ds.all flatD = true → RepL K H ds vs → inV v vs = ds.any fun y => eqB y x
  | [], _, _, e => by cases e; rfl
  | d :: ds, _, h, ⟨u, vr, e, r, rr⟩ => by
    subst e
    rw [List.all_cons, Bool.and_eq_true] at h
    have ih := inV_any hx rx h.2 rr
    unfold inV at ih ⊢
    rw [List.any_cons, List.any_cons, ih, eqV_eqB h.1 hx r rx]
theorem anyP : ∀ {ds : List D} {x : D}, pls 60 ds = true → pln x = true → ((toPs ds).any fun z => PyData.eqv z (toP x)) = ds.any fun y => eqB y x
  | [], _, _, _ => rfl
  | d :: ds, x, h, hx => by
    simp only [pls, Bool.and_eq_true] at h
    show ((toP d :: toPs ds).any _) = _
    rw [List.any_cons, List.any_cons, anyP h.2 hx, eqB_eqv d x 60 60 h.1 hx]
theorem DGet.fk {H : Hp} {a : Addr} {kvs : List (Key × V)} {k : Key} {o : Obj} (e : H a = some (.frz o (.dK kvs))) : DGet H a (kV k) (valV kvs k) := .inl ⟨kvs, k, .inr ⟨o, e⟩, rfl, rfl⟩
/-- in, by the container: the answer told to a wish P -/
theorem mem_ok (neg : Bool) (hu : X.A.units + 65 < cLine) (hw : cx.w = X.w) : OpR X (compareOp (if neg then .NotIn else .In)) (r2of X.K cx fun a b S Q => memD a b S fun k => Q (.d (.bl (if neg then !k else k))) S) := by
  intro pins s σ H x y v u Q I rx ry w
  obtain ⟨S, a, b, hr, ra, rb, w⟩ := w
  cases a <;> first | exact w.elim | skip
  rename_i x'
  obtain ⟨c, w, hc⟩ := view_of hr rb w
  unfold memC at w
  split at w
  · obtain ⟨p, vs, rfl, hp, r1⟩ := hc
    have k := fin_bl w.2.2 hr
    rw [← anyP w.2.1 w.1] at k
    cases neg with
    | true => exact op_notInD hu pins s σ H _ _ v u Q I rx ry ⟨_, _, RepV.dp 60 _ _ w.1 ra, .lst (SqL.of hp) (RepL.dp 60 _ _ w.2.1 r1), pln_shaped w.1, plns_shaped w.2.1, k⟩
    | false => exact op_inD hu pins s σ H _ _ v u Q I rx ry ⟨_, _, RepV.dp 60 _ _ w.1 ra, .lst (SqL.of hp) (RepL.dp 60 _ _ w.2.1 r1), pln_shaped w.1, plns_shaped w.2.1, k⟩
  · obtain ⟨p, vs, rfl, hp, r1⟩ := hc
    have k := fin_bl w.2.2 hr
    rw [← inV_any w.1 ra w.2.1 r1] at k
    cases neg with
    | true => exact op_notIn_seq pins s σ H _ _ v u Q I rx ry ⟨p, vs, rfl, .inr hp, flat_rel w.1 ra, flats_rel w.2.1 r1, k⟩
    | false => exact op_in_seq pins s σ H _ _ v u Q I rx ry ⟨p, vs, rfl, .inr hp, flat_rel w.1 ra, flats_rel w.2.1 r1, k⟩
  · obtain ⟨p, ks, rfl, hp, r1⟩ := hc
    cases ry
    have k := fin_bl w.2 hr
    rw [r1.has w.1] at k
    have ex := key_rel w.1 ra
    subst ex
    cases neg with
    | true => exact d_notIn (by omega) I (DGet.k hp) rx fun s' I' => ⟨.bl _, H, I', rfl, k⟩
    | false => exact d_in (by omega) I (DGet.k hp) rx fun s' I' => ⟨.bl _, H, I', rfl, k⟩
  · obtain ⟨p, ks, o, rfl, hp, r1⟩ := hc
    cases ry
    have k := fin_bl w.2 hr
    rw [r1.has w.1] at k
    have ex := key_rel w.1 ra
    subst ex
    cases neg with
    | true => exact d_notIn (by omega) I (DGet.fk hp) rx fun s' I' => ⟨.bl _, H, I', rfl, k⟩
    | false => exact d_in (by omega) I (DGet.fk hp) rx fun s' I' => ⟨.bl _, H, I', rfl, k⟩
  · obtain ⟨p, xs, rfl, hp, r1⟩ := hc
    cases ry
    have k := fin_bl w.2 hr
    rw [hw] at hp
    cases neg with
    | true => exact dn_notIn (by omega) I (.inl hp) r1 w.1 ra rx fun s' I' => ⟨.bl _, H, I', rfl, k⟩
    | false => exact dn_in (by omega) I (.inl hp) r1 w.1 ra rx fun s' I' => ⟨.bl _, H, I', rfl, k⟩
  · obtain ⟨p, xs, o, rfl, hp, r1⟩ := hc
    cases ry
    have k := fin_bl w.2 hr
    rw [hw] at hp
    cases neg with
    | true => exact dn_notIn (by omega) I (.inr ⟨o, hp⟩) r1 w.1 ra rx fun s' I' => ⟨.bl _, H, I', rfl, k⟩
    | false => exact dn_in (by omega) I (.inr ⟨o, hp⟩) r1 w.1 ra rx fun s' I' => ⟨.bl _, H, I', rfl, k⟩
  · cases ra
    cases hc
    have k := fin_bl w hr
    cases neg with
    | true => exact op_notIn_sign pins s σ H _ _ v u Q I rx ry ⟨_, _, rfl, rfl, by simpa using k⟩
    | false => exact op_in_sign pins s σ H _ _ v u Q I rx ry ⟨_, _, rfl, rfl, by simpa using k⟩
  · exact w.elim
theorem memh_ok (neg : Bool) (hu : X.A.units + 65 < cLine) : OpR X (compareOp (if neg then .NotIn else .In)) (r2of X.K cx fun a b S Q => memH a b S fun k => Q (.d (.bl (if neg then !k else k))) S) := by
  intro pins s σ H x y v u Q I rx ry w
  obtain ⟨S, a, b, hr, ra, rb, w⟩ := w
  cases a <;> first | exact w.elim | skip
  rename_i x'
  obtain ⟨c, w, hc⟩ := view_of hr rb w
  cases c <;> first | exact w.elim | skip
  obtain ⟨p, vs, rfl, hp, r1⟩ := hc
  have k := fin_bl w.2.2 hr
  rw [← anyP w.2.1.2 w.1] at k
  obtain ⟨as, q1⟩ := Dp.reads I _ x v (RepV.dp 60 _ _ w.1 ra) rx
  have sh : SeqAt.shaped (toP (.tup _)) = true := pln_shaped (a := .tup _) w.2.1.1
  obtain ⟨bs, q2⟩ := Dp.reads I _ _ u (Dp.tup hp (RepL.dp 59 _ _ w.2.1.1 r1)) ry
  cases neg with
  | true => exact SeqAt.notIn_tuple_reads q2 q1 (SeqAt.canLay_of_shaped sh) (SeqAt.canLay_of_shaped (pln_shaped w.1)) (room_in_shaped (pln_shaped w.1) hu) ⟨.bl _, H, I, rfl, k⟩
  | false => exact SeqAt.in_tuple_reads q2 q1 (SeqAt.canLay_of_shaped sh) (SeqAt.canLay_of_shaped (pln_shaped w.1)) (room_in_shaped (pln_shaped w.1) hu) ⟨.bl _, H, I, rfl, k⟩
theorem op2_memh (hu : X.A.units + 65 < cLine) : OpR X (compareOp .In) (r2of X.K cx (op2D .memh)) := memh_ok (cx := cx) false hu
theorem op2_nmemh (hu : X.A.units + 65 < cLine) : OpR X (compareOp .NotIn) (r2of X.K cx (op2D .nmemh)) := memh_ok (cx := cx) true hu
theorem op2_mem (hu : X.A.units + 65 < cLine) (hw : cx.w = X.w) : OpR X (compareOp .In) (r2of X.K cx (op2D .mem)) := mem_ok (cx := cx) false hu hw
theorem op2_nmem (hu : X.A.units + 65 < cLine) (hw : cx.w = X.w) : OpR X (compareOp .NotIn) (r2of X.K cx (op2D .nmem)) := mem_ok (cx := cx) true hu hw

/-! ### subscripts -/
theorem getI_atI {α β : Type} {xs : List α} {ys : List β} (h : xs.length = ys.length) {i : Int} {x : α} (e : getI xs i = some x) : ∃ j : Nat, xs[j]? = some x ∧ ∀ y, ys[j]? = some y → atI ys i = some y := by
  cases i with
  | ofNat n =>
    refine ⟨n, e, fun y hy => ?_⟩
    have hn : n < ys.length := (List.getElem?_eq_some_iff.mp hy).1
    unfold atI ixN
    rw [if_pos (by simp), if_pos (by simp; omega)]
    simpa using hy
  | negSucc n =>
    have e : (if n < xs.length then xs[xs.length - (n + 1)]? else none) = some x := e
    split at e
    · rename_i hn
      refine ⟨_, e, fun y hy => ?_⟩
      unfold atI ixN
      rw [if_neg (by omega), if_pos (by rw [← h]; omega)]
      have e2 : (Int.negSucc n + (ys.length : Int)).toNat = xs.length - (n + 1) := by rw [← h]; omega
      show ys[_]? = _
      rw [e2]
      exact hy
    · cases e
theorem RepL.getI {K : Frag} {H : Hp} {ds : List D} {vs : List V} {i : Int} {d : D} (r : RepL K H ds vs) (e : DL.getI ds i = some d) : ∃ v, atI vs i = some v ∧ RepV K H d v := by
  obtain ⟨j, h1, h2⟩ := getI_atI r.length e
  obtain ⟨v, h3, h4⟩ := r.get h1
  exact ⟨v, h2 v h3, h4⟩
theorem ix_ok (hu : X.A.units + 65 < cLine) (hw : cx.w = X.w) : IxR X (r2of X.K cx (op2D .idx)) := by
  intro value slice pins s σ H x y v u Q I rx ry w hs
  obtain ⟨S, a, b, hr, ra, rb, w⟩ := w
  have w : idxD a b S (KVof X.K cx S H Q) := w
  unfold idxD at w
  split at w
  · obtain ⟨c, w, hc⟩ := view_of hr ra w
    unfold idxC at w
    split at w
    · obtain ⟨p, vs, rfl, hp, r1⟩ := hc
      cases rb
      obtain ⟨z, e, k⟩ := w
      obtain ⟨zv, h1, h2⟩ := r1.getI e
      exact ix_list value slice pins s σ H _ _ v u Q I rx ry ⟨p, vs, _, zv, rfl, rfl, SqL.of hp, h1, fin_d k hr h2⟩ hs
    · obtain ⟨p, vs, rfl, hp, r1⟩ := hc
      cases rb
      obtain ⟨z, e, k⟩ := w
      obtain ⟨zv, h1, h2⟩ := r1.getI e
      exact ix_list value slice pins s σ H _ _ v u Q I rx ry ⟨p, vs, _, zv, rfl, rfl, hp, h1, fin_d k hr h2⟩ hs
    · obtain ⟨p, vs, rfl, hp, r1⟩ := hc
      cases rb
      obtain ⟨z, e, k⟩ := w
      obtain ⟨zv, h1, h2⟩ := r1.getI e
      exact ix_tup value slice pins s σ H _ _ v u Q I rx ry ⟨p, vs, _, zv, rfl, rfl, hp, h1, fin_d k hr h2⟩ hs
    · cases hc
      cases rb
      obtain ⟨hz, z, e, k⟩ := w
      rename_i _ cs i _
      obtain ⟨j, h1, h2⟩ := getI_atI (ys := (sv cs).cps.toList) (by simp) e
      exact ix_str value slice pins s σ H _ _ v u Q I rx ry ⟨_, _, z, rfl, rfl, by rw [sv_length]; exact hz, h2 z (by simpa using h1), fin_d k hr rfl⟩ hs
    · obtain ⟨p, ks, rfl, hp, r1⟩ := hc
      cases rx
      obtain ⟨hk, z, e, k⟩ := w
      obtain ⟨zv, h1, h2⟩ := (r1.get hk).1 _ e
      have ex := key_rel hk rb
      subst ex
      have g : DGet H p (kV (keyK _)) (some zv) := h1 ▸ DGet.k hp
      exact tail_any (dict_typeIs I g) PySem.F.slot_dict_getitem.lookup (d_getItem (by omega) I g ry fun w' s3 I3 rw' => ⟨zv, H, I3, rw', fin_d k hr h2⟩) hs
    · obtain ⟨p, ks, o, rfl, hp, r1⟩ := hc
      cases rx
      obtain ⟨hk, z, e, k⟩ := w
      obtain ⟨zv, h1, h2⟩ := (r1.get hk).1 _ e
      have ex := key_rel hk rb
      subst ex
      have g : DGet H p (kV (keyK _)) (some zv) := h1 ▸ DGet.fk hp
      exact tail_any (dict_typeIs I g) PySem.F.slot_dict_getitem.lookup (d_getItem (by omega) I g ry fun w' s3 I3 rw' => ⟨zv, H, I3, rw', fin_d k hr h2⟩) hs
    · obtain ⟨p, xs, rfl, hp, r1⟩ := hc
      cases rx
      obtain ⟨hk, z, e, k⟩ := w
      rw [hw] at hp
      exact tail_any (dn_typeIs I (.inl hp)) PySem.F.slot_dict_getitem.lookup (dn_getItem (by omega) I (.inl hp) r1 hk rb ry e fun zv w' s3 I3 rw' h2 => ⟨zv, H, I3, rw', fin_d k hr h2⟩) hs
    · obtain ⟨p, xs, o, rfl, hp, r1⟩ := hc
      cases rx
      obtain ⟨hk, z, e, k⟩ := w
      rw [hw] at hp
      exact tail_any (dn_typeIs I (.inr ⟨o, hp⟩)) PySem.F.slot_dict_getitem.lookup (dn_getItem (by omega) I (.inr ⟨o, hp⟩) r1 hk rb ry e fun zv w' s3 I3 rw' h2 => ⟨zv, H, I3, rw', fin_d k hr h2⟩) hs
    · exact w.elim
  · exact w.elim
end
end DL

/-! DL5: the operators are sound: calls of built-ins, slices, stores, methods that change lists and dicts. -/
namespace DL
open PySem L2 PySem.Spec PyProof.Rows
def c1of (K : Frag) (cx : Cls2) (o : O1) : List V → Hp → VK → Prop := fun vs H Q => ∃ v, vs = [v] ∧ r1of K cx (op1D o) v H Q
def c2of (K : Frag) (cx : Cls2) (o : O2) : List V → Hp → VK → Prop := fun vs H Q => ∃ v u, vs = [v, u] ∧ r2of K cx (op2D o) v u H Q
section
variable {prog : Program} {w : World} {A : Around} {s : Shared} {E : Value → Shared → Prop}
/-- a heap with one list more, of these items -/
def laidL (h : Heap) (vs : List Value) : Heap := (h.push (seqObj "list" #[] 0)).update h.objs.size (Obj.mapSeq (· ++ vs.toArray))
theorem laidL_size (h : Heap) (vs : List Value) : (laidL h vs).objs.size = h.objs.size + 1 := by unfold laidL; rw [Heap.size_update, size_push']
theorem laidL_old {h : Heap} {vs : List Value} {b : Addr} {o : Obj} (e : h.get? b = some o) : (laidL h vs).get? b = some o := by
  unfold laidL
  rw [Heap.get?_update_ne _ _ _ _ (Nat.ne_of_lt (Heap.lt_size e))]
  exact Heap.get?_push_of_some _ e
/-- the items of a tuple, laid into a list of their own -/
theorem items_tup {l : Addr} {o : Obj} {n : Nat} {vs : List Value} {Q : List Value → Shared → Prop} (ho : s.heap.get? l = some o) (hc : o.cls = .type "tuple") (hd : o.data = .seq vs.toArray n) (hsz : vs.length ≤ sizeLine)
    (h : Q vs { s with heap := laidL s.heap vs }) : wpAny (model prog w) A (collect (.ref l)) Q E s := by
  have old : (s.heap.push (seqObj "list" #[] 0)).get? l = some o := Heap.get?_push_of_some _ ho
  have new : (s.heap.push (seqObj "list" #[] 0)).get? s.heap.objs.size = some (seqObj "list" #[] 0) := Heap.get?_push_size _ rfl
  have two : (Value.type "tuple" == Value.type "tuple") = true := rfl
  have lim : (#[] ++ vs.toArray).size ≤ sizeLine + 1 := by
    rw [Array.size_append, List.size_toArray]
    show 0 + vs.length ≤ _
    omega
  unfold collect
  refine wpAny_bind (wpAny_runValue (codeAny_builtin entry_proto_collect' (wpAny_bind (wpAny_newList (wpAny_pure ⟨Code.quiet_builtin _ (by decide +kernel), codeAny_builtin entry_list_iadd' ?_⟩)))))
  show wpAny _ _ (Builtin.List.listExtendWith (.ref s.heap.objs.size) (.ref l) (.ref s.heap.objs.size)) _ _ { s with heap := s.heap.push (seqObj "list" #[] 0) }
  unfold Builtin.List.listExtendWith
  refine wpAny_bind (wpAny_typeOf (T := "tuple") ⟨o, old, hc⟩ ?_)
  rw [if_pos (by rw [two]; simp)]
  refine wpAny_bind (listItems_at old hd (wpAny_bind (listItems_at (xs := #[]) (n := 0) new rfl ?_)))
  rw [if_neg (by simp)]
  refine wpAny_bind (listUpdate_at (xs := #[]) (n := 0) new rfl (wpAny_pure (wpAny_bind (wpAny_load (get?_update_seq new _) ?_))) (Nat.zero_le _) lim)
  refine wpAny_pure ?_
  rw [show ((#[] : Array Value) ++ vs.toArray).toList = vs by simp]
  exact h
/-- sorted(t), a tuple of ints -/
theorem sorted_tupI {l : Addr} {o : Obj} {n : Nat} {vs : List Value} {ns : List Int} {Q : Value → Shared → Prop} (ho : s.heap.get? l = some o) (hc : o.cls = .type "tuple") (hd : o.data = .seq vs.toArray n) (hsz : vs.length ≤ sizeLine) (hi : IntsAre vs ns)
    (h : ∀ (out : List Value) (h' : Heap) (k : Nat), (∀ b o, s.heap.get? b = some o → h'.get? b = some o) → h'.get? (s.heap.objs.size + 1) = some (seqObj "list" out.toArray k) → IntsAre out (out.map SrtO.iv) → (out.map SrtO.iv).Perm ns → (out.map SrtO.iv).Pairwise (· ≤ ·) → Q (.ref (s.heap.objs.size + 1)) { s with heap := h' }) :
    wpAny (model prog w) A (call (.builtin "sorted") [.ref l]) Q E s := by
  refine Calls.call_function_entry kind_sorted plain_sorted entry_sorted (args_sorted1 _) ?_
  unfold Builtin.«sorted»
  refine wpAny_bind (m := checkCount "sorted" 1 1 _) (wpAny_pure (wpAny_bind (items_tup ho hc hd hsz (wpAny_bind (wpAny_newList ?_ hsz)))))
  show wpAny _ _ _ _ _ { s with heap := (laidL s.heap vs).push (seqObj "list" vs.toArray 0) }
  rw [laidL_size]
  have new : ((laidL s.heap vs).push (seqObj "list" vs.toArray 0)).get? (s.heap.objs.size + 1) = some (seqObj "list" vs.toArray 0) := by
    rw [← laidL_size s.heap vs]; exact Heap.get?_push_size _ rfl
  have old : ∀ b o, s.heap.get? b = some o → b ≠ s.heap.objs.size + 1 ∧ ((laidL s.heap vs).push (seqObj "list" vs.toArray 0)).get? b = some o := fun b o e =>
    ⟨Nat.ne_of_lt (Nat.lt_succ_of_lt (Heap.lt_size e)), Heap.get?_push_of_some _ (laidL_old e)⟩
  refine wpAny_bind (wpAny_holding (wpAny_call_entry slot_list_sort ⟨_, new, rfl⟩ entry_list_sort (SrtO.list_sort_ord SrtO.swo_int new hsz (fun h2 => SrtO.ints_sortable hi h2) fun out hs hb => ⟨_, rfl, wpAny_pure ⟨_, rfl, ?_⟩⟩) (args_list_sort _)))
  obtain ⟨k1, k2, k3⟩ := SrtO.ints_out hi hs hb
  obtain ⟨k, ek⟩ := sortedHeap_at (out := out.toArray) new
  exact h out _ k (fun b o e => (sortedHeap_old (old b o e).1 (Heap.lt_size (old b o e).2)).trans (old b o e).2) ek k1 k2 k3
end
section
variable {X : Cx} {cx : Cls2}
theorem op1_neg : UnR X (unaryOp .USub) (r1of X.K cx (op1D .neg)) := by
  intro pins s σ H x v Q I rx w
  obtain ⟨S, a, hr, ra, w⟩ := w
  have w : negD a S _ := w
  unfold negD at w
  split at w
  · cases ra
    exact un_neg pins s σ H _ v Q I rx ⟨_, rfl, fin_int w hr⟩
  · exact w.elim
theorem view_len {K : Frag} {H : Hp} {c : Cn} {v : V} {n : Nat} (hc : CnR K cx H c v) (e : lenC c = some n) : LenV K v H n ∨ ∃ a ks, v = .ref a ∧ H a = some (.dK ks) ∧ n = ks.length := by
  cases c with
  | l ds => obtain ⟨p, vs, rfl, hp, r⟩ := hc; cases e; exact .inl (.inl ⟨vs, SqL.of hp, r.length⟩)
  | f ds => obtain ⟨p, vs, rfl, hp, r⟩ := hc; cases e; exact .inl (.inl ⟨vs, hp, r.length⟩)
  | t ds => obtain ⟨p, vs, rfl, hp, r⟩ := hc; cases e; exact .inl (.inr ⟨vs, hp, r.length⟩)
  | k ds => obtain ⟨p, vs, rfl, hp, r⟩ := hc; cases e; exact .inr ⟨p, vs, rfl, hp, r.length⟩
  | s cs =>
    cases hc
    simp only [lenC] at e
    split at e
    · cases e
      rename_i h
      exact .inl ⟨by rw [sv_length]; exact h, (sv_length _).symm⟩
    · cases e
  | i _ _ => cases e
  | kf _ => cases e
  | kn _ => cases e
  | kfn _ => cases e
  | e _ => exact hc.elim
theorem call1_len : CallR X (.builtin "len") (c1of X.K cx .len) := by
  intro pins s σ H xs us Q I r w
  obtain ⟨v, rfl, S, a, hr, ra, w⟩ := w
  obtain ⟨c, w, hc⟩ := view_of hr ra w
  obtain ⟨n, e, k⟩ := w
  have k := fin_int k hr
  rcases view_len hc e with h | ⟨p, ks, rfl, hp, rfl⟩
  · exact call_len pins s σ H _ us Q I r ⟨_, _, rfl, h, k⟩
  · exact call_lenD pins s σ H _ us Q I r ⟨_, _, rfl, hp, k⟩
theorem call1_int : CallR X (.type "int") (c1of X.K cx .int) := by
  intro pins s σ H xs us Q I r w
  obtain ⟨v, rfl, S, a, hr, ra, w⟩ := w
  have w : toIntD a S _ := w
  unfold toIntD at w
  split at w <;> first | exact w.elim | skip
  all_goals cases ra
  · exact call_int1 pins s σ H _ us Q I r (.inl ⟨_, rfl, fin_int w hr⟩)
  · exact call_int1 pins s σ H _ us Q I r (.inr ⟨_, rfl, fin_int w hr⟩)
theorem toStr_sv (i : Int) : ((toString i : String) : Str) = sv ((toString i : String).toList.map Char.toNat) := Str.ofString_eq_toList _
theorem call1_str : CallR X (.type "str") (c1of X.K cx .str) := by
  intro pins s σ H xs us Q I r w
  obtain ⟨v, rfl, S, a, hr, ra, w⟩ := w
  have w : strD a S _ := w
  unfold strD at w
  split at w <;> first | exact w.elim | skip
  all_goals cases ra
  refine call_str_int pins s σ H _ us Q I r ⟨_, rfl, w.1, fin_d w.2 hr ?_⟩
  show V.str _ = V.str _
  rw [toStr_sv]
theorem view_seq {K : Frag} {H : Hp} {c : Cn} {v : V} {ds : List D} (hc : CnR K cx H c v) (e : seqOf c = some ds) : ∃ p vs, v = .ref p ∧ (SqL K H p vs ∨ SqT K H p vs) ∧ RepL K H ds vs ∧ (SqT K H p vs ∨ ¬ ∃ es, c = .t es) := by
  cases c with
  | l ds => obtain ⟨p, vs, rfl, hp, r⟩ := hc; cases e; exact ⟨p, vs, rfl, .inl (SqL.of hp), r, .inr fun ⟨_, z⟩ => by cases z⟩
  | f ds => obtain ⟨p, vs, rfl, hp, r⟩ := hc; cases e; exact ⟨p, vs, rfl, .inl hp, r, .inr fun ⟨_, z⟩ => by cases z⟩
  | t ds => obtain ⟨p, vs, rfl, hp, r⟩ := hc; cases e; exact ⟨p, vs, rfl, .inr hp, r, .inl hp⟩
  | _ => cases e
theorem call1_list : CallR X (.type "list") (c1of X.K cx .list) := by
  intro pins s σ H xs us Q I r w
  obtain ⟨v, rfl, S, a, hr, ra, w⟩ := w
  obtain ⟨c, w, hc⟩ := view_of hr ra w
  obtain ⟨ds, e, k⟩ := w
  obtain ⟨p, vs, rfl, hp, r1, _⟩ := view_seq hc e
  exact call_list_of pins s σ H _ us Q I r ⟨p, vs, rfl, hp, fin_vl k hr r1⟩
theorem call1_tuple : CallR X (.type "tuple") (c1of X.K cx .tuple) := by
  intro pins s σ H xs us Q I r w
  obtain ⟨v, rfl, S, a, hr, ra, w⟩ := w
  obtain ⟨c, w, hc⟩ := view_of hr ra w
  obtain ⟨ds, e, k⟩ := w
  obtain ⟨p, vs, rfl, hp, r1, _⟩ := view_seq hc e
  rcases hp with hp | hp
  · exact call_tuple_of pins s σ H _ us Q I r ⟨p, vs, rfl, .inl ⟨hp, fin_tup k hr r1⟩⟩
  · exact call_tuple_of pins s σ H _ us Q I r ⟨p, vs, rfl, .inr ⟨hp, fin_d k hr ⟨p, vs, rfl, hp, r1⟩⟩⟩
theorem dic_ints {K : Frag} {H : Hp} : ∀ {kvs : List (D × D)} {ks : List (Key × V)} {ns : List Int}, DicR K H kvs ks → kvs.map Prod.fst = ns.map D.int → ks.map (·.1) = ns.map Sum.inl
  | [], _, ns, .nil, e => by
    cases ns with
    | nil => rfl
    | cons n ns => cases e
  | p :: kvs, q :: ks, ns, .cons h t, e => by
    cases ns with
    | nil => cases e
    | cons n ns =>
      simp only [List.map_cons, List.cons.injEq] at e ⊢
      refine ⟨?_, dic_ints t e.2⟩
      have h := h.1
      rw [e.1] at h
      exact h
theorem call1_sorted (hcalm : X.calm = true) : CallR X (.builtin "sorted") (c1of X.K cx .sorted) := by
  intro pins s σ H xs us Q I r w
  obtain ⟨v, rfl, S, a, hr, ra, w⟩ := w
  obtain ⟨c, w, hc⟩ := view_of hr ra w
  obtain ⟨ns, e, k⟩ := w
  rcases e with rfl | ⟨kvs, rfl, e, h64⟩ | rfl
  rotate_left 2
  · obtain ⟨p, vs, rfl, hp, r1⟩ := hc
    have e := r1.ints
    subst e
    obtain ⟨u, rfl, rx⟩ := vals1 r
    cases rx
    obtain ⟨its, rv, ⟨o, ho, hcl, n, hd⟩, hz⟩ := I.tuple hp
    refine sorted_tupI ho hcl hd (by rw [← rv.length]; exact hz) rv.ints fun out h' kk kp e2 k1 k2 k3 => ?_
    have hlen : ((out.map SrtO.iv).map V.int).length ≤ sizeLine := by
      rw [List.length_map, k2.length_eq]
      rw [List.length_map] at hz
      exact hz
    exact ⟨.ref _, upd H (s.heap.objs.size + 1) (.lst ((out.map SrtO.iv).map V.int)), I.laid (t' := s.toks) kp (Nat.le_succ _) ⟨hlen, out, kk, vals_of_ints k1, e2⟩, rfl, fin_vl (k _ k2 k3) hr (RepL.ofInts _) _ (I.hok.fresh (Nat.le_succ _))⟩
  · obtain ⟨p, vs, rfl, hp, r1⟩ := hc
    have e := r1.ints
    subst e
    exact cr_sortedI pins s σ H _ us Q I r ⟨p, ns, rfl, SqL.of hp, fun ns' q h1 h2 n => fin_vl (k ns' h1 h2) hr (RepL.ofInts ns') q n⟩
  · obtain ⟨p, ks, rfl, hp, rd⟩ := hc
    exact call_sortedDI hcalm pins s σ H _ us Q I r ⟨p, ks, ns, rfl, .inl hp, dic_ints rd e, h64, fun ns' q h1 h2 n => fin_vl (k ns' h1 h2) hr (RepL.ofInts ns') q n⟩
theorem call1_dict : CallR X (.type "dict") (c1of X.K cx .dict) := by
  intro pins s σ H xs us Q I r w
  obtain ⟨v, rfl, S, a, hr, ra, w⟩ := w
  obtain ⟨c, w, hc⟩ := view_of hr ra w
  obtain ⟨kvs, rfl, w⟩ := w
  obtain ⟨p, ks, rfl, hp, rd⟩ := hc
  exact call_dictD pins s σ H _ us Q I r ⟨p, ks, rfl, .inl hp, fun q hq => w _ _ (hr.upd0 (hr.free hq) (tupS_new hq)) (.new hq) ⟨⟨q, ks, rfl, upd_same, hr.free hq, rd.keep (tupS_new hq)⟩, fun _ => ⟨q, rfl, hq⟩⟩⟩
theorem call1_all (hc : X.calm = true) : CallR X (.builtin "all") (c1of X.K cx .all) := by
  intro pins s σ H xs us Q I r w
  obtain ⟨v, rfl, S, a, hr, ra, w⟩ := w
  obtain ⟨c, w, hc'⟩ := view_of hr ra w
  obtain ⟨ds, ns, rfl, rfl, k⟩ := w
  obtain ⟨p, vs, rfl, hp, r1⟩ := hc'
  have e := r1.bls
  subst e
  exact cr_all hc pins s σ H _ us Q I r ⟨p, ns, rfl, SqL.of hp, fin_bl k hr⟩
theorem call1_any (hc : X.calm = true) : CallR X (.builtin "any") (c1of X.K cx .any) := by
  intro pins s σ H xs us Q I r w
  obtain ⟨v, rfl, S, a, hr, ra, w⟩ := w
  obtain ⟨c, w, hc'⟩ := view_of hr ra w
  obtain ⟨ds, ns, rfl, rfl, k⟩ := w
  obtain ⟨p, vs, rfl, hp, r1⟩ := hc'
  have e := r1.bls
  subst e
  exact cr_any hc pins s σ H _ us Q I r ⟨p, ns, rfl, SqL.of hp, fin_bl k hr⟩
theorem call2_min (hc : X.calm = true) : CallR X (.builtin "min") (c2of X.K cx .min) := by
  intro pins s σ H xs us Q I r w
  obtain ⟨v, u, rfl, w⟩ := w
  obtain ⟨i, j, rfl, rfl, k⟩ := rI0_elim (gd := fun i j => .int (if j < i then j else i)) (fun _ _ _ => rfl) (fun _ _ _ _ h => h) w
  exact call_min2 hc pins s σ H _ us Q I r ⟨i, j, rfl, k⟩
theorem call2_max (hc : X.calm = true) : CallR X (.builtin "max") (c2of X.K cx .max) := by
  intro pins s σ H xs us Q I r w
  obtain ⟨v, u, rfl, w⟩ := w
  obtain ⟨i, j, rfl, rfl, k⟩ := rI0_elim (gd := fun i j => .int (if j > i then j else i)) (fun _ _ _ => rfl) (fun _ _ _ _ h => h) w
  exact call_max2 hc pins s σ H _ us Q I r ⟨i, j, rfl, k⟩

/-! ### isinstance -/
def Ty.nm : Ty → String
  | .int => "int"
  | .bool => "bool"
  | .str => "str"
  | .tuple => "tuple"
  | .list => "list"
  | .dict => "dict"
def Ty.all : List Ty := [.int, .bool, .str, .tuple, .list, .dict]
theorem kit_non (t : Ty) : kitB "NoneType" t.nm = some false := by cases t <;> decide +kernel
theorem kit_bool (t : Ty) : kitB "bool" t.nm = some (t = .bool || t = .int) := by cases t <;> decide +kernel
theorem kit_int (t : Ty) : kitB "int" t.nm = some (decide (t = .int)) := by cases t <;> decide +kernel
theorem kit_str (t : Ty) : kitB "str" t.nm = some (decide (t = .str)) := by cases t <;> decide +kernel
theorem kit_tuple (t : Ty) : kitB "tuple" t.nm = some (decide (t = .tuple)) := by cases t <;> decide +kernel
theorem kit_list (t : Ty) : kitB "list" t.nm = some (decide (t = .list)) := by cases t <;> decide +kernel
theorem kit_dict (t : Ty) : kitB "dict" t.nm = some (decide (t = .dict)) := by cases t <;> decide +kernel
theorem tupTy {K : Frag} {H : Hp} {a : Addr} {vs : List V} (h : SqT K H a vs) : TyX K H (.ref a) (.type "tuple") := by
  rcases h with (h | ⟨o, h⟩) | ⟨o, _, _, h, c, _⟩
  · exact .base (.tup h)
  · exact .fTuple h
  · exact .kTuple h c
theorem lstTy {K : Frag} {H : Hp} {a : Addr} {vs : List V} (h : SqL K H a vs) : TyX K H (.ref a) (.type "list") := by
  rcases h with (h | ⟨o, h⟩) | ⟨o, _, _, h, c, _⟩
  · exact .base (.lst h)
  · exact .base (.frz h)
  · exact .kList h c
theorem isi_ok (t : Ty) : CallR X (.builtin "isinstance") (fun vs H Q => ∃ v, vs = [v, .ty t.nm] ∧ r1of X.K cx (op1D (.isi t)) v H Q) := by
  intro pins s σ H xs us Q I r w
  obtain ⟨v, rfl, S, a, hr, ra, w⟩ := w
  have fin : ∀ {T : String} {b : Bool}, TyX X.K H v (.type T) → kitB T t.nm = some b → Q (.bl b) H → wpAny (model X.prog X.w) X.A (call (.builtin "isinstance") us) (EP X pins σ Q) X.xe s :=
    fun {T b} h1 h2 h3 => call_isi pins s σ H _ us Q I r ⟨v, .ty t.nm, .type T, .type t.nm, b, rfl, .ty _, h1, kit_ty h2, h3⟩
  have w : isiD t a S _ := w
  unfold isiD at w
  split at w
  · obtain ⟨b, e, k⟩ := w
    have k := fin_bl k hr
    unfold Ty.isD at e
    split at e
    · cases e; cases ra; exact fin (.base .non) (kit_non t) k
    · cases e; cases ra; exact fin (.base (.bl _)) (kit_bool t) k
    · cases e; cases ra; exact fin (.base (.int _)) (kit_int t) k
    · cases e; cases ra; exact fin (.base (.str _)) (kit_str t) k
    · cases e; obtain ⟨p, vs, rfl, hp, r1⟩ := ra; exact fin (tupTy hp) (kit_tuple t) k
    · cases ra
      split at e
      · rename_i h; cases e
        obtain ⟨vs, hp, _⟩ := hr _ _ h
        exact fin (.base (.lst hp)) (kit_list t) k
      · rename_i h; cases e
        obtain ⟨vs, hp, _⟩ := hr _ _ h
        exact fin (.base (.dK hp)) (kit_dict t) k
      · cases e
  · obtain ⟨p, vs, rfl, hp, _⟩ := ra
    exact fin (.base (.lst hp)) (kit_list t) (fin_bl w hr)
  · exact w.elim

/-! ### slices -/
theorem cutV_eq (vs : List V) (lo hi : Option Int) : cutV vs lo hi = cutI vs lo hi := rfl
theorem cut_all {vs : List V} {lo hi : Option Int} (h : HT.sIx vs.length 0 lo = 0 ∧ HT.sIx vs.length vs.length hi = vs.length) : cutV vs lo hi = vs := by
  unfold cutV
  rw [h.1, h.2]
  simp
def s1of (K : Frag) (cx : Cls2) : V → Option Int → Option Int → Hp → VK → Prop := fun x lo hi H Q => ∃ S a, Rel K cx S H ∧ RepX K H S a x ∧ view a S fun c => slcC c lo hi S (KVof K cx S H Q)
theorem slc_ok : SlR X (s1of X.K cx) := by
  intro pins s σ H x v vl vu lo hi sl Q I rx hs pl pu w
  obtain ⟨S, a, hr, ra, w⟩ := w
  obtain ⟨c, w, hc⟩ := view_of hr ra w
  cases c with
  | l ds =>
    obtain ⟨p, vs, rfl, hp, r1⟩ := hc
    exact sl_list pins s σ H _ v vl vu lo hi sl Q I rx hs pl pu ⟨p, vs, rfl, SqL.of hp, fin_vl w hr (r1.cut lo hi)⟩
  | f ds =>
    obtain ⟨p, vs, rfl, hp, r1⟩ := hc
    exact sl_list pins s σ H _ v vl vu lo hi sl Q I rx hs pl pu ⟨p, vs, rfl, hp, fin_vl w hr (r1.cut lo hi)⟩
  | t ds =>
    obtain ⟨p, vs, rfl, hp, r1⟩ := hc
    refine sl_tupA pins s σ H _ v vl vu lo hi sl Q I rx hs pl pu ⟨p, vs, rfl, hp, fun h => ?_, fun _ => fin_tup w hr (r1.cut lo hi)⟩
    have e := r1.cut lo hi
    rw [cut_all h] at e
    exact fin_d w hr ⟨p, vs, rfl, hp, e⟩
  | s cs =>
    cases hc
    refine sl_str pins s σ H _ v vl vu lo hi sl Q I rx hs pl pu ⟨_, rfl, by rw [sv_length]; exact w.1, ?_⟩
    refine fin_d w.2 hr ?_
    show V.str _ = V.str _
    congr 1
  | _ => exact w.elim

/-! ### changes of lists and dicts -/
theorem seqIx_nat {n m : Nat} (h : n < m) : seqIndex? (Int.ofNat n) m = some n := by
  have e : seqIndex? (Int.ofNat n) m = if (0 ≤ (if (n : Int) < 0 then (n : Int) + m else n) && (if (n : Int) < 0 then (n : Int) + m else n) < m) = true then some (if (n : Int) < 0 then (n : Int) + m else n).toNat else none := rfl
  have e1 : (if (n : Int) < 0 then (n : Int) + m else n) = (n : Int) := if_neg (by omega)
  rw [e, e1, if_pos (by simp; omega)]
  simp
theorem ixN_nat {n m : Nat} (h : n < m) : ixN m (Int.ofNat n) = some n := by
  unfold ixN
  simp only [Int.ofNat_eq_natCast]
  rw [if_pos (by omega), if_pos (by omega)]
  simp
/-- behind a mutator: the container at a is c', all else stands -/
def MOut (K : Frag) (cx : Cls2) (H : Hp) (a : Addr) (c' : Cn) (H' : Hp) : Prop := ∃ h', H' = upd H a h' ∧ CnR K cx H' c' (.ref a) ∧ ∀ o, H a = some o → seqish o = false
def mOf (K : Frag) (cx : Cls2) (m : M) : V → List V → Hp → VK → Prop := fun x vs H Q => ∃ S c a xs, Rel K cx S H ∧ x = .ref a ∧ CnR K cx H c (.ref a) ∧ Paired (RepX K H S) xs vs ∧
  mutC m c xs S fun c' r => ∀ H' v, MOut K cx H a c' H' → RepV K H' r v → Q v H'
theorem lst_tups {K : Frag} {H : Hp} {a : Addr} {xs : List V} {h : HO} (hp : H a = some (.lst xs)) : TupS K H (upd H a h) := tupS_upd fun o e => by rw [hp] at e; cases e; rfl
theorem dic_tups {K : Frag} {H : Hp} {a : Addr} {xs : List (Key × V)} {h : HO} (hp : H a = some (.dK xs)) : TupS K H (upd H a h) := tupS_upd fun o e => by rw [hp] at e; cases e; rfl
theorem mout_l {K : Frag} {H : Hp} {a : Addr} {xs ys : List V} {ds : List D} (hp : H a = some (.lst xs)) (r : RepL K H ds ys) : MOut K cx H a (.l ds) (upd H a (.lst ys)) :=
  ⟨_, rfl, ⟨a, ys, rfl, upd_same, r.keep (lst_tups hp)⟩, fun o e => by rw [hp] at e; cases e; rfl⟩
theorem mout_k {K : Frag} {H : Hp} {a : Addr} {xs ys : List (Key × V)} {ds : List (D × D)} (hp : H a = some (.dK xs)) (r : DicR K H ds ys) : MOut K cx H a (.k ds) (upd H a (.dK ys)) :=
  ⟨_, rfl, ⟨a, ys, rfl, upd_same, r.keep (dic_tups hp)⟩, fun o e => by rw [hp] at e; cases e; rfl⟩
theorem mut_append : MtR X "list.append" (mOf X.K cx .append) := by
  intro pins s σ H x vs v us Q I rx rv w
  obtain ⟨S, c, a, xs, hr, rfl, hc, ra, w⟩ := w
  unfold mutC at w
  split at w <;> first | (rename_i h1 _; cases h1; done) | (rename_i h1; cases h1; done) | exact w.elim | skip
  obtain ⟨p, ys, e, hp, r1⟩ := hc
  cases e
  cases ra with
  | cons q t =>
    cases t
    exact mt_append pins s σ H _ _ v us Q I rx rv ⟨a, ys, _, rfl, rfl, hp, by rw [← r1.length]; exact w.1, w.2 _ _ (mout_l hp (r1.append (RepL.cons q RepL.nil))) rfl⟩
theorem mut_pop : MtR X "list.pop" (mOf X.K cx .pop) := by
  intro pins s σ H x vs v us Q I rx rv w
  obtain ⟨S, c, a, xs, hr, rfl, hc, ra, w⟩ := w
  unfold mutC at w
  split at w <;> first | (rename_i h1 _; cases h1; done) | (rename_i h1; cases h1; done) | exact w.elim | skip
  obtain ⟨p, ys, e, hp, r1⟩ := hc
  cases e
  cases ra
  obtain ⟨y, e, w⟩ := w
  obtain ⟨yv, h1, h2⟩ := r1.get e
  exact mt_pop pins s σ H _ _ v us Q I rx rv ⟨a, ys, yv, rfl, rfl, hp, by rw [← r1.length]; exact h1, w _ _ (mout_l hp r1.dropLast) (h2.keep (lst_tups hp))⟩
theorem mut_popAt : MtR X "list.pop" (mOf X.K cx .popAt) := by
  intro pins s σ H x vs v us Q I rx rv w
  obtain ⟨S, c, a, xs, hr, rfl, hc, ra, w⟩ := w
  unfold mutC at w
  split at w <;> first | (rename_i h1 _; cases h1; done) | (rename_i h1; cases h1; done) | exact w.elim | skip
  obtain ⟨p, ys, e, hp, r1⟩ := hc
  cases e
  cases ra with
  | cons q t =>
    cases t
    obtain ⟨y, e, w⟩ := w
    obtain ⟨yv, h1, h2⟩ := r1.get e
    cases q
    obtain ⟨z, its, n, r, hl, e⟩ := I.lstM hp
    have hn := (List.getElem?_eq_some_iff.mp h1).1
    have hl2 := line63
    refine mt_popAt pins s σ H _ _ v us Q I rx rv ⟨a, ys, _, _, yv, rfl, rfl, hp, ?_, ?_, ?_, h1, w _ _ (mout_l hp (r1.eraseIdx _)) (h2.keep (lst_tups hp))⟩
    · exact Int.le_trans (by decide) (Int.natCast_nonneg _)
    · show ((_ : Nat) : Int) < 2 ^ 63
      omega
    · exact seqIx_nat hn
theorem mut_remove : MtR X "list.remove" (mOf X.K cx .remove) := by
  intro pins s σ H x vs v us Q I rx rv w
  obtain ⟨S, c, a, xs, hr, rfl, hc, ra, w⟩ := w
  unfold mutC at w
  split at w <;> first | (rename_i h1 _; cases h1; done) | (rename_i h1; cases h1; done) | exact w.elim | skip
  obtain ⟨p, ys, e, hp, r1⟩ := hc
  cases e
  obtain ⟨ns, j, e1, e2, e3, w⟩ := w
  subst e1
  have ey := r1.ints
  subst ey
  cases ra with
  | cons q t =>
    cases t
    cases q
    exact mt_remove pins s σ H _ _ v us Q I rx rv ⟨a, ns, _, j, rfl, rfl, hp, e2, e3, w _ _ (mout_l hp (RepL.ofInts _)) rfl⟩
theorem mut_insert : MtR X "list.insert" (mOf X.K cx .insert) := by
  intro pins s σ H x vs v us Q I rx rv w
  obtain ⟨S, c, a, xs, hr, rfl, hc, ra, w⟩ := w
  unfold mutC at w
  split at w <;> first | (rename_i h1 _; cases h1; done) | (rename_i h1; cases h1; done) | exact w.elim | skip
  obtain ⟨p, ys, e, hp, r1⟩ := hc
  cases e
  cases ra with
  | cons q t =>
    cases t with
    | cons q2 t =>
      cases t
      cases q
      obtain ⟨w1, w2, w⟩ := w
      refine mt_insert pins s σ H _ _ v us Q I rx rv ⟨a, ys, _, _, rfl, rfl, hp, by rw [← r1.length]; exact w1, Int.natCast_nonneg _, ?_, w _ _ (mout_l hp ?_) rfl⟩
      · show ((_ : Nat) : Int) < 2 ^ 63
        omega
      · simp only [Int.ofNat_eq_natCast, Int.toNat_natCast]
        exact ((r1.take _).append (RepL.cons q2 RepL.nil)).append (r1.drop _)
theorem mut_extend : MtR X "list.extend" (mOf X.K cx .extend) := by
  intro pins s σ H x vs v us Q I rx rv w
  obtain ⟨S, c, a, xs, hr, rfl, hc, ra, w⟩ := w
  unfold mutC at w
  split at w <;> first | (rename_i h1 _; cases h1; done) | (rename_i h1; cases h1; done) | exact w.elim | skip
  obtain ⟨p, ys, e, hp, r1⟩ := hc
  cases e
  cases ra with
  | cons q t =>
    cases t
    obtain ⟨c', ⟨es, rfl, hz, w⟩, hc'⟩ := view_of hr q w
    obtain ⟨p', zs, rfl, hp', r2⟩ := hc'
    exact mt_extend pins s σ H _ _ v us Q I rx rv ⟨a, p', ys, zs, rfl, rfl, hp, hp', by rw [← r1.length, ← r2.length]; exact hz, w _ _ (mout_l hp (r1.append r2)) rfl⟩
theorem mut_clear : MtR X "list.clear" (mOf X.K cx .clear) := by
  intro pins s σ H x vs v us Q I rx rv w
  obtain ⟨S, c, a, xs, hr, rfl, hc, ra, w⟩ := w
  unfold mutC at w
  split at w <;> first | (rename_i h1 _; cases h1; done) | (rename_i h1; cases h1; done) | exact w.elim | skip
  obtain ⟨p, ys, e, hp, r1⟩ := hc
  cases e
  cases ra
  exact mt_clear pins s σ H _ _ v us Q I rx rv ⟨a, ys, rfl, rfl, hp, w _ _ (mout_l hp RepL.nil) rfl⟩
/-- o[k] = v -/
def pset (K : Frag) (cx : Cls2) : TSet := fun x i v H Q => ∃ S c a kd vd, Rel K cx S H ∧ x = .ref a ∧ CnR K cx H c (.ref a) ∧ RepV K H kd i ∧ RepV K H vd v ∧
  mutC .setI c [.d kd, .d vd] S fun c' _ => ∀ H', MOut K cx H a c' H' → Q H'
theorem ixN_back {n m : Nat} (h : n < m) : ixN m (Int.negSucc n) = some (m - (n + 1)) := by
  unfold ixN
  rw [if_neg (by omega), if_pos (by omega)]
  congr 1
  omega
theorem pset_ok (hu : X.A.units + 65 < cLine) (hw : cx.w = X.w) : PSet X (pset X.K cx) := by
  intro pins s σ H o i v ov iv u Q I ro ri rv w
  obtain ⟨S, c, a, kd, vd, hr, rfl, hc, rk, rw', w⟩ := w
  unfold mutC at w
  split at w <;> first | (rename_i h1 _; cases h1; done) | (rename_i h1; cases h1; done) | exact w.elim | skip
  · rename_i h2
    cases h2
    obtain ⟨p, ys, e, hp, r1⟩ := hc
    cases e
    cases rk
    refine set_list pins s σ H _ _ v ov iv u Q I ro ri rv ⟨a, ys, _, _, rfl, rfl, hp, ?_, w.2 _ (mout_l hp (r1.set _ rw'))⟩
    exact ixN_nat (by rw [← r1.length]; exact w.1)
  · rename_i h2
    cases h2
    obtain ⟨p, ys, e, hp, r1⟩ := hc
    cases e
    cases rk
    refine set_list pins s σ H _ _ v ov iv u Q I ro ri rv ⟨a, ys, _, _, rfl, rfl, hp, ?_, w.2 _ (mout_l hp (r1.set _ rw'))⟩
    rw [r1.length]
    exact ixN_back (by rw [← r1.length]; exact w.1)
  · rename_i h2
    cases h2
    obtain ⟨p, ks, e, hp, r1⟩ := hc
    cases e
    cases ro
    have ex := key_rel w.1 rk
    subst ex
    exact d_setItem (by omega) I (DPut.k hp (by rw [← r1.length]; exact w.2.1)) ri rv fun s' I' => ⟨_, I', w.2.2 _ (mout_k hp (r1.put w.1 rw'))⟩
  · rename_i h2
    cases h2
    obtain ⟨p, ks, e, hp, r1⟩ := hc
    cases e
    cases ro
    rw [hw] at hp
    refine dn_setItem (by omega) I hp r1 w.2.1 w.1 rk ri rw' rv fun xs' s' I' r' => ⟨_, I', w.2.2 _ ⟨_, rfl, ⟨a, xs', rfl, by rw [hw]; exact upd_same, r'⟩, fun o e => by rw [hp] at e; cases e; rfl⟩⟩
end
end DL

/-! DL5c: sorted(d.items()), d of ints by ints. -/
namespace L2.DX
open PySem PySem.Spec PyProof.Rows L2
/-- a pair's two ints, read off a heap -/
def pairAt (h : Heap) : Value → Int × Int
  | .ref b => match h.get? b with
    | some o => match o.data with
      | .seq a _ => match a.toList with
        | [.int x _, .int y _] => (x, y)
        | _ => (0, 0)
      | _ => (0, 0)
    | none => (0, 0)
  | _ => (0, 0)
def entI (p : Int × Int) : Key × V := (Sum.inl p.1, V.int p.2)
theorem pairs_get {P : Program} {w : World} {K : Type} [DecidableEq K] {knd : KeyKind P w K} : ∀ {es : List DictEntry} {kvs : List (K × Value)}, Pairs knd es kvs → es.length = kvs.length ∧ ∀ (j : Nat) (k : K) (v : Value), kvs[j]? = some (k, v) → ∃ e, es[j]? = some e ∧ knd.is k e.key = true ∧ e.val = v := by
  intro es kvs h
  induction h with
  | nil => exact ⟨rfl, fun j k v e => by simp at e⟩
  | cons hk hv hr ih =>
    refine ⟨by simp [ih.1], fun j k v e => ?_⟩
    cases j with
    | zero => simp at e; subst e; exact ⟨_, rfl, hk, hv⟩
    | succ j =>
      obtain ⟨e', h1, h2, h3⟩ := ih.2 j k v (by simpa using e)
      exact ⟨e', by simpa using h1, h2, h3⟩
def tSIt (td : TE) : TE := fun σ H Q => td σ H fun x H1 => ∃ (a : Addr) (ps : List (Int × Int)), x = .ref a ∧ H1 a = some (.dK (ps.map entI)) ∧ ps.length ≤ 1000 ∧
  ∀ (qs : List (Int × Int)) (ts : List Addr) (l : Addr) (H2 : Hp), qs.Perm ps → qs.Pairwise (fun p q => SrtO.lexB q p = false) → (∀ b o, H1 b = some o → H2 b = some o) → H1 l = none → H2 l = some (.lst (ts.map V.ref)) →
    Paired (fun (t : Addr) (q : Int × Int) => H2 t = some (.tup [.int q.1, .int q.2])) ts qs → Q (.ref l) H2
theorem pe_sItems {X : Cx} {e : Expr} {td : TE} {p apos cpos pos : Pos} (hc : X.calm = true) (hg : Gl X "sorted") (hm : X.mg "sorted" = none) (he : PE X e td)
    (hbase : attributeBase e "items" X.env (eval e X.env) = eval e X.env) (hline : (apos.endLine == cpos.line) = true)
    (na : starEach [(.Call (.Attribute e "items" apos) [] [] cpos : Expr)] X.env = (false, eval (.Call (.Attribute e "items" apos) [] [] cpos) X.env) :: starEach [] X.env := by rfl) :
    PE X (.Call (.Name "sorted" p) [.Call (.Attribute e "items" apos) [] [] cpos] [] pos) (tSIt td) := by
  refine ⟨fun pins s σ H Q I h => ?_⟩
  refine Call_ (ld_blt I hg hm PyProof.Rows.boot_sorted ?_)
  refine PyProof.Rows.callWith_builtin1 (PyProof.Rows.args_cons ?_ na) na rfl
  refine wpAny_Call_method (T := "dict") (id := "dict.items") hbase rfl hline F.plainAttrs_dict F.slot_dict_items F.type_dict_items (thn (he.run pins s σ H _ I h) fun u s1 ⟨x, H1, I1, rx, a, ps, ex, ha, h1000, q⟩ => ?_)
  subst ex
  obtain rfl : u = Value.ref a := rx
  obtain ⟨hz, hsm, vs, kv, o, es, ep, ho, hx, hdat, hko, hpr, hnd⟩ := I1.hok a _ ha
  obtain ⟨l1, hget⟩ := pairs_get hpr
  have l2 : (ps.map entI).length = vs.length := Paired.length kv
  rw [List.length_map] at l2
  have les : es.size = ps.length := by rw [← Array.length_toList, l1, ← l2]
  have hh : X.A.handled = none := I1.ok.hd hc
  have hdo : s1.heap.DictOf (mixKind X.prog X.w) a vs := ⟨o, es, ep, ho, hx, hdat, hko, hpr, hnd⟩
  refine ⟨hdo.typeIs, hdo.mapOf.noDict, ?_⟩
  have hvw : (s1.heap.push { cls := .type "dict_items", data := .fields #[.ref a] }).get? s1.heap.objs.size = some { cls := .type "dict_items", data := .fields #[.ref a] } := Heap.get?_push_size _ rfl
  have kv0 : ∀ b ob, s1.heap.get? b = some ob → (s1.heap.push { cls := .type "dict_items", data := .fields #[.ref a] }).get? b = some ob := fun b ob q => Heap.get?_push_of_some _ q
  show wpAny _ _ (callWith cpos (.builtin "dict.items") [.ref a] [] []) _ X.xe s1
  refine method_meetsIn F.slot_dict_items F.entry_dict_items rfl (PySem.evalArgs_none ⟨rfl, hdo.typeIs, F.args_dict_items_1 _, _, meets_dict_items (mixKind X.prog X.w) a hsm, ⟨vs, hdo⟩, ?_⟩)
  refine PyProof.Rows.args_nil ?_
  have I2 : Inv X pins σ H1 { s1 with heap := s1.heap.push { cls := .type "dict_items", data := .fields #[.ref a] } } := I1.kept (t' := s1.toks) kv0
  have hsz : (s1.heap.push { cls := .type "dict_items", data := .fields #[.ref a] }).objs.size = s1.heap.objs.size + 1 := Heap.size_push ..
  refine DT.sortedI (es := es) (ep := ep) (d := a) (r := s1.heap.objs.size) hh ⟨_, hvw, rfl, rfl⟩ ⟨o, kv0 _ _ ho, hx, hdat⟩ (by rw [les, sizeLine_eq]; omega) fun h' tk as hk hlt hl hG => ?_
  have lak : as.length = ps.length := by omega
  have nd : as.Nodup := List.Pairwise.imp (fun h => Nat.ne_of_lt h) hG.rise
  -- the pairs that were made
  have pr : ∀ (j : Nat) (b : Addr), as[j]? = some b → ∃ (p : Int × Int) (t1 t2 : Nat), ps[j]? = some p ∧ h'.get? b = some { cls := .type "tuple", data := .seq #[Value.int p.1 t1, Value.int p.2 t2] } := by
    intro j b hj
    obtain ⟨en, he, hg⟩ := hG.pairs j b hj
    have hjp : j < ps.length := by rw [← lak]; exact (List.getElem?_eq_some_iff.mp hj).1
    have e1 : (ps.map entI)[j]? = some (Sum.inl ps[j].1, V.int ps[j].2) := by rw [List.getElem?_map, List.getElem?_eq_getElem hjp]; rfl
    obtain ⟨u, hu, ru⟩ := kv_get kv e1
    obtain ⟨en', h1, h2, h3⟩ := hget j _ _ hu
    rw [← Array.getElem?_toList] at he
    rw [he] at h1
    cases h1
    obtain ⟨t2, rfl⟩ := ru
    rcases keyIs_shape (show keyIs (Sum.inl ps[j].1) en.key = true from h2) with ⟨i, t1, e2, e3⟩ | ⟨x, t1, e2, e3⟩
    · cases e2
      exact ⟨ps[j], t1, t2, List.getElem?_eq_getElem hjp, by rw [hg, e3, h3]⟩
    · cases e2
  -- the heap of the sort
  have hob : (h'.push { cls := .type "list", data := .seq (as.map Value.ref).toArray }).get? h'.objs.size = some (seqObj "list" (as.map Value.ref).toArray 0) := Heap.get?_push_size _ rfl
  have kb : ∀ b o, s1.heap.get? b = some o → (h'.push { cls := .type "list", data := .seq (as.map Value.ref).toArray }).get? b = some o := fun b o e => Heap.get?_push_of_some _ (hk b o (kv0 b o e))
  have ne0 : ∀ b o, h'.get? b = some o → b ≠ h'.objs.size := fun b o e => Nat.ne_of_lt (Heap.lt_size e)
  have hlt1 : s1.heap.objs.size < h'.objs.size := by
    have : s1.heap.objs.size + 1 < h'.objs.size := by rw [← hsz]; exact hlt
    omega
  generalize hh2 : h'.push { cls := .type "list", data := .seq (as.map Value.ref).toArray } = h2 at hob kb ⊢
  have ka : ∀ b o, h'.get? b = some o → h2.get? b = some o := fun b o e => by rw [← hh2]; exact Heap.get?_push_of_some _ e
  have pat : ∀ (j : Nat) (b : Addr) (p : Int × Int), as[j]? = some b → ps[j]? = some p → pairAt h2 (.ref b) = p ∧ Srt.IsPair h2 (.ref b) p.1 p.2 := by
    intro j b p hj hp
    obtain ⟨p', t1, t2, hp', hg⟩ := pr j b hj
    rw [hp] at hp'
    cases hp'
    have hg2 := ka _ _ hg
    refine ⟨?_, ⟨b, _, t1, t2, _, rfl, hg2, rfl, rfl⟩⟩
    show (match h2.get? b with | some o => (match o.data with | .seq a _ => (match a.toList with | [.int x _, .int y _] => (x, y) | _ => (0, 0)) | _ => (0, 0)) | none => (0, 0)) = p
    rw [hg2]
  have at_ : ∀ v ∈ as.map Value.ref, ∃ (j : Nat) (b : Addr) (p : Int × Int), v = .ref b ∧ as[j]? = some b ∧ ps[j]? = some p := by
    intro v hv'
    obtain ⟨b, hb, rfl⟩ := List.mem_map.mp hv'
    obtain ⟨j, hj⟩ := List.mem_iff_getElem?.mp hb
    obtain ⟨p, _, _, hp, _⟩ := pr j b hj
    exact ⟨j, b, p, rfl, hj, hp⟩
  have hps : ∀ v ∈ as.map Value.ref, Srt.IsPair h2 v (pairAt h2 v).1 (pairAt h2 v).2 := by
    intro v hv'
    obtain ⟨j, b, p, rfl, hj, hp⟩ := at_ v hv'
    obtain ⟨e1, e2⟩ := pat j b p hj hp
    rw [e1]; exact e2
  refine wpAny_call_entry PyProof.Rows.slot_list_sort ⟨_, hob, rfl⟩ PyProof.Rows.entry_list_sort
    (SrtO.list_sort_ord (s := { s1 with heap := h2, toks := tk }) (SrtO.swo_lex (pairAt h2)) hob (by rw [List.length_map, lak, sizeLine_eq]; omega) (fun h2' => SrtO.pairs_sortableO (by rw [List.length_map] at h2'; simp; omega) hps fun o e => ?_) fun out o1 o2 => ⟨.none, rfl, ?_⟩) (PyProof.Rows.args_list_sort _)
  · have e' : some o = some (seqObj "list" (as.map Value.ref).toArray 0) := e.symm.trans hob
    cases e'
    intro c
    exact absurd (Value.type.inj c) (by decide)
  show EP X pins σ Q (.ref h'.objs.size) { s1 with heap := sortedHeap h2 h'.objs.size (as.map Value.ref) out.toArray, toks := tk }
  obtain ⟨zs, pz, ez⟩ := perm_lift (fun z : Addr × Int × Int => Value.ref z.1) o2.perm (as.zip ps) (by
    rw [show (fun z : Addr × Int × Int => Value.ref z.1) = Value.ref ∘ Prod.fst from rfl, ← List.map_map, List.map_fst_zip (by omega)])
  have idx : ∀ z ∈ zs, ∃ j : Nat, as[j]? = some z.1 ∧ ps[j]? = some z.2 := by
    intro z' hz'
    obtain ⟨j, hj⟩ := List.mem_iff_getElem?.mp (pz.mem_iff.mp hz')
    exact ⟨j, List.getElem?_zip_eq_some.mp hj⟩
  have hperm : (zs.map (·.2)).Perm ps := by
    have e := pz.map (·.2)
    have m2 : (as.zip ps).map (·.2) = ps := List.map_snd_zip (by omega)
    rw [m2] at e
    exact e
  have hsort : (zs.map (·.2)).Pairwise (fun p q => SrtO.lexB q p = false) := by
    have o1' : (zs.map fun z => Value.ref z.1).Pairwise (fun x y => SrtO.lexB (pairAt h2 y) (pairAt h2 x) = false) := by rw [ez]; exact o1
    rw [List.pairwise_map] at o1' ⊢
    refine List.Pairwise.imp_of_mem (fun {x y} hx hy h => ?_) o1'
    obtain ⟨j, j1, j2⟩ := idx x hx
    obtain ⟨i, i1, i2⟩ := idx y hy
    have h' : SrtO.lexB (pairAt h2 (.ref y.1)) (pairAt h2 (.ref x.1)) = false := h
    rw [(pat j _ _ j1 j2).1, (pat i _ _ i1 i2).1] at h'
    exact h'
  -- behind the sort
  have kF : ∀ b o, b ≠ h'.objs.size → h2.get? b = some o → (sortedHeap h2 h'.objs.size (as.map Value.ref) out.toArray).get? b = some o := fun b o hb e => (PyProof.Rows.sortedHeap_old hb (Heap.lt_size e)).trans e
  have kS : ∀ b o, s1.heap.get? b = some o → (sortedHeap h2 h'.objs.size (as.map Value.ref) out.toArray).get? b = some o := fun b o e => kF b o (ne0 _ _ (hk b o (kv0 b o e))) (kb b o e)
  obtain ⟨eF, heF⟩ := PyProof.Rows.sortedHeap_at (vs := as.map Value.ref) (out := out.toArray) hob
  have I3 : Inv X pins σ H1 { s1 with heap := sortedHeap h2 h'.objs.size (as.map Value.ref) out.toArray, toks := tk } := I1.kept (t' := tk) kS
  have hn0 : H1 h'.objs.size = none := I1.hok.fresh (Nat.le_of_lt hlt1)
  have hlen : (zs.map fun z => V.ref z.1).length ≤ sizeLine := by
    have e := hperm.length_eq
    rw [List.length_map] at e
    rw [List.length_map, sizeLine_eq]
    omega
  have rv : Vals (zs.map fun z => V.ref z.1) out := by
    rw [← ez]
    exact vals_maps (fun z : Addr × Int × Int => V.ref z.1) (fun z => Value.ref z.1) zs fun _ _ => rfl
  have I4 : Inv X pins σ (upd H1 h'.objs.size (.lst (zs.map fun z => V.ref z.1))) { s1 with heap := sortedHeap h2 h'.objs.size (as.map Value.ref) out.toArray, toks := tk } :=
    I3.take (h' := sortedHeap h2 h'.objs.size (as.map Value.ref) out.toArray) (t' := tk) (fun b ob _ e => e) (I1.fpOk (Nat.le_of_lt hlt1) hn0) ⟨hlen, out, eF, rv, heF⟩
  obtain ⟨H2, I5, g, qt⟩ := takeT (P := fun b vs => ∃ (j : Nat) (p : Int × Int), as[j]? = some b ∧ ps[j]? = some p ∧ vs = [.int p.1, .int p.2]) I1 as _ I4 nd fun b hb => by
    obtain ⟨j, hj⟩ := List.mem_iff_getElem?.mp hb
    obtain ⟨p, t1, t2, hp, hg⟩ := pr j b hj
    have hbl : s1.heap.objs.size ≤ b := by
      have h9 : s1.heap.objs.size + 1 < b := by rw [← hsz]; exact hG.above b hb
      omega
    refine ⟨hbl, ?_, [.int p.1, .int p.2], ⟨j, p, hj, hp, rfl⟩, fun H3 => ⟨(by rw [sizeLine_eq]; show 2 ≤ 16777216; omega), [Value.int p.1 t1, Value.int p.2 t2], .cons ⟨t1, rfl⟩ (.cons ⟨t2, rfl⟩ .nil), ⟨_, kF _ _ (ne0 _ _ hg) (ka _ _ hg), rfl, 0, rfl⟩⟩⟩
    rw [upd_ne (ne0 _ _ hg)]
    exact I1.hok.fresh hbl
  have gr : ∀ b o, H1 b = some o → H2 b = some o := fun b o e => g b o (by rw [upd_ne (ne_of_none e hn0)]; exact e)
  have el : (zs.map fun z => V.ref z.1) = (zs.map (·.1)).map V.ref := by rw [List.map_map]; rfl
  refine ⟨.ref h'.objs.size, H2, I5, rfl, q (zs.map (·.2)) (zs.map (·.1)) h'.objs.size H2 hperm hsort gr hn0 (by rw [← el]; exact g _ _ upd_same) ?_⟩
  have key : ∀ l : List (Addr × Int × Int), (∀ z ∈ l, z ∈ zs) → Paired (fun (t : Addr) (q : Int × Int) => H2 t = some (.tup [.int q.1, .int q.2])) (l.map (·.1)) (l.map (·.2)) := by
    intro l
    induction l with
    | nil => intro _; exact .nil
    | cons z l ih =>
      intro hm
      refine .cons ?_ (ih fun y hy => hm y (List.mem_cons_of_mem _ hy))
      obtain ⟨i, i1, i2⟩ := idx z (hm z List.mem_cons_self)
      obtain ⟨vs, ⟨j, p, j1, j2, ev⟩, hH⟩ := qt z.1 (List.mem_of_getElem? i1)
      have eij : i = j := (List.getElem?_inj (List.getElem?_eq_some_iff.mp i1).1 nd).mp (i1.trans j1.symm)
      subst eij
      have ee : p = z.2 := Option.some.inj (j2.symm.trans i2)
      rw [ev, ee] at hH
      exact hH
  exact key zs fun z h => h
end L2.DX

/-! DL5d: sorted of pairs, sum, max, min. -/
namespace DL
open PySem L2 PySem.Spec PyProof.Rows
section
variable {X : Cx} {cx : Cls2}
theorem lex_lt {p q : Int × Int} (h : SrtO.lexB p q = false) : ¬ ltP2 p q := SrtO.lexB_no.mp h
theorem reps_pairs {K : Frag} {H : Hp} : ∀ {ps : List (Int × Int)} {vs : List V}, RepL K H (ps.map pairD) vs → Paired (fun (p : Int × Int) (v : V) => ∃ t, v = .ref t ∧ SqT K H t [.int p.1, .int p.2]) ps vs
  | [], _, e => by cases e; exact .nil
  | p :: ps, _, ⟨v, vr, e, r, rr⟩ => by
    subst e
    obtain ⟨t, us, rfl, h, ru⟩ := r
    obtain ⟨u1, r1, rfl, h1, h2⟩ := ru
    obtain ⟨u2, r2, rfl, h3, h4⟩ := h2
    cases h1; cases h3; cases h4
    exact .cons ⟨t, rfl, h⟩ (reps_pairs rr)
theorem call1_sortedP : CallR X (.builtin "sorted") (c1of X.K cx .sortedP) := by
  intro pins s σ H xs us Q I r w
  obtain ⟨v, rfl, S, a, hr, ra, w⟩ := w
  obtain ⟨c, w, hc⟩ := view_of hr ra w
  obtain ⟨ps, rfl, k⟩ := w
  obtain ⟨p, vs, rfl, hp, r1⟩ := hc
  have pr := reps_pairs r1
  obtain ⟨its, rv, hl, hz⟩ := I.list (SqL.of hp)
  obtain ⟨u, rfl, ru⟩ := vals1 r
  obtain rfl : u = Value.ref p := ru
  have isref : ∀ x ∈ vs, ∃ t, x = V.ref t := by
    intro x hx
    obtain ⟨j, hj⟩ := List.mem_iff_getElem?.mp hx
    have : ∀ {ps : List (Int × Int)} {vs : List V}, Paired (fun (p : Int × Int) (v : V) => ∃ t, v = .ref t ∧ SqT X.K H t [.int p.1, .int p.2]) ps vs → ∀ x ∈ vs, ∃ t, x = V.ref t := by
      intro ps vs h
      induction h with
      | nil => intro x hx; cases hx
      | cons h _ ih =>
        intro x hx
        rcases List.mem_cons.mp hx with rfl | hx
        · obtain ⟨t, e, _⟩ := h; exact ⟨t, e⟩
        · exact ih x hx
    exact this pr x hx
  obtain ⟨e1, e2⟩ := refs_back rv isref
  -- each value of the list
  have at_ : ∀ {ps : List (Int × Int)} {us : List Value}, Paired (fun (p : Int × Int) (v : V) => ∃ t, v = .ref t ∧ SqT X.K H t [.int p.1, .int p.2]) ps (us.map backV) → (∀ u ∈ us, ∃ t, u = Value.ref t) →
      ps = us.map (L2.DX.pairAt s.heap) ∧ ∀ u ∈ us, Srt.IsPair s.heap u (L2.DX.pairAt s.heap u).1 (L2.DX.pairAt s.heap u).2 ∧ RepV X.K H (pairD (L2.DX.pairAt s.heap u)) (backV u) := by
    intro ps us
    induction us generalizing ps with
    | nil => intro h _; cases h; exact ⟨rfl, fun u hu => by cases hu⟩
    | cons u us ih =>
      intro h hu
      cases h with
      | cons h t =>
        rename_i p ps
        obtain ⟨i1, i2⟩ := ih t fun u hu' => hu u (List.mem_cons_of_mem _ hu')
        obtain ⟨b, rfl⟩ := hu u List.mem_cons_self
        obtain ⟨b', eb, hq⟩ := h
        cases eb
        obtain ⟨its2, rv2, ⟨o, ho, hcl, n, hd⟩, _⟩ := I.tuple hq
        obtain ⟨u1, u2, rfl, ri, rj⟩ := vals2 rv2
        obtain ⟨t1, rfl⟩ := ri
        obtain ⟨t2, rfl⟩ := rj
        have ep : L2.DX.pairAt s.heap (.ref b) = p := by
          show (match s.heap.get? b with | some o => (match o.data with | .seq a _ => (match a.toList with | [.int x _, .int y _] => (x, y) | _ => (0, 0)) | _ => (0, 0)) | none => (0, 0)) = p
          rw [ho]
          show (match o.data with | .seq a _ => (match a.toList with | [.int x _, .int y _] => (x, y) | _ => (0, 0)) | _ => (0, 0)) = p
          rw [hd]
        have one : Srt.IsPair s.heap (.ref b) (L2.DX.pairAt s.heap (.ref b)).1 (L2.DX.pairAt s.heap (.ref b)).2 ∧ RepV X.K H (pairD (L2.DX.pairAt s.heap (.ref b))) (backV (.ref b)) := by
          rw [ep]
          exact ⟨⟨b, o, t1, t2, n, rfl, ho, hcl, hd⟩, b, [.int p.1, .int p.2], rfl, hq, .cons rfl (.cons rfl .nil)⟩
        refine ⟨by rw [List.map_cons, ep, i1], fun u hu' => ?_⟩
        rcases List.mem_cons.mp hu' with rfl | hu'
        · exact one
        · exact i2 u hu'
  rw [e1] at pr
  obtain ⟨ep, each⟩ := at_ pr e2
  refine SrtO.sorted_pairsO (k := L2.DX.pairAt s.heap) hl.isList (by rw [← rv.length]; exact hz) (fun v hv => (each v hv).1) fun h' d out h1 h2 kp hd hn => ?_
  have h3 : ∀ u ∈ out, ∃ a, u = Value.ref a := fun u hu => e2 u (h2.perm.mem_iff.mp hu)
  obtain ⟨n, hn⟩ := hn
  have hln : (out.map backV).length ≤ sizeLine := by
    rw [List.length_map, h2.perm.length_eq, ← rv.length]
    exact hz
  refine ⟨.ref d, upd H d (.lst (out.map backV)), I.laid (t' := s.toks) kp hd ⟨hln, out, n, vals_back h3, hn⟩, rfl, ?_⟩
  refine fin_vl (k (out.map (L2.DX.pairAt s.heap)) ?_ ?_) hr ?_ d (I.hok.fresh hd)
  · rw [ep]; exact h2.perm.map _
  · show List.Pairwise _ _
    rw [List.pairwise_map]
    exact h1.imp fun h => lex_lt h
  · have key : ∀ l : List Value, (∀ u ∈ l, u ∈ out) → RepL X.K H ((l.map (L2.DX.pairAt s.heap)).map pairD) (l.map backV) := by
      intro l
      induction l with
      | nil => intro _; exact .nil
      | cons u l ih => exact fun hm => .cons (each u (h2.perm.mem_iff.mp (hm u List.mem_cons_self))).2 (ih fun x hx => hm x (List.mem_cons_of_mem _ hx))
    exact key out fun u hu => hu
theorem call1_sum (hcalm : X.calm = true) : CallR X (.builtin "sum") (c1of X.K cx .sum) := by
  intro pins s σ H xs us Q I r w
  obtain ⟨v, rfl, S, a, hr, ra, w⟩ := w
  obtain ⟨c, w, hc⟩ := view_of hr ra w
  obtain ⟨ns, rfl, k⟩ := w
  obtain ⟨p, vs, rfl, hp, r1⟩ := hc
  have e := r1.ints
  subst e
  exact cr_sum hcalm pins s σ H _ us Q I r ⟨p, ns, rfl, SqL.of hp, fin_int k hr⟩
theorem call1_max (hcalm : X.calm = true) : CallR X (.builtin "max") (c1of X.K cx .maxl) := by
  intro pins s σ H xs us Q I r w
  obtain ⟨v, rfl, S, a, hr, ra, w⟩ := w
  obtain ⟨c, w, hc⟩ := view_of hr ra w
  obtain ⟨ns, rfl, h0, k⟩ := w
  obtain ⟨p, vs, rfl, hp, r1⟩ := hc
  have e := r1.ints
  subst e
  exact cr_max hcalm pins s σ H _ us Q I r ⟨p, ns, rfl, SqL.of hp, h0, fun m h1 h2 => fin_int (k m h1 h2) hr⟩
theorem call1_min (hcalm : X.calm = true) : CallR X (.builtin "min") (c1of X.K cx .minl) := by
  intro pins s σ H xs us Q I r w
  obtain ⟨v, rfl, S, a, hr, ra, w⟩ := w
  obtain ⟨c, w, hc⟩ := view_of hr ra w
  obtain ⟨ns, rfl, h0, k⟩ := w
  obtain ⟨p, vs, rfl, hp, r1⟩ := hc
  have e := r1.ints
  subst e
  exact cr_min hcalm pins s σ H _ us Q I r ⟨p, ns, rfl, SqL.of hp, h0, fun m h1 h2 => fin_int (k m h1 h2) hr⟩
end
end DL

/-! DL5s: sorted(set(t)), len(set(t)) of a tuple of ints; xs[:] = ys. -/
namespace DL
open PySem L2 PySem.Spec PyProof.Rows
section
variable {X : Cx}
def tSet2 (K : Frag) (k : Bool) (ta : TE) : TE := fun σ H Q => ta σ H fun x H1 => ∃ (l : Addr) (ns : List Int), x = V.ref l ∧ SqT K H1 l (ns.map V.int) ∧ ns.length < 64 ∧
  ∀ ms : List Int, ms.Nodup → (k = true → ms.Pairwise (· < ·)) → (∀ j, j ∈ ms ↔ j ∈ ns) → (k = true → ∀ p, H1 p = none → Q (.ref p) (upd H1 p (.lst (ms.map V.int)))) ∧ (k = false → Q (.int ms.length) H1)
theorem vals_ints : ∀ {l : List Value} {ns : List Int}, IntsAre l ns → Vals (ns.map V.int) l
  | _, _, .nil => .nil
  | _, _, .cons n t h => .cons ⟨t, rfl⟩ (vals_ints h)
theorem pe_sortedSet {a : Expr} {ta : TE} {p p2 q pos : Pos} (hc : X.calm = true) (hg : Gl X "sorted") (hm : X.mg "sorted" = none) (hg2 : Gl X "set") (hm2 : X.mg "set" = none) (ha : PE X a ta)
    (na : starEach [a] X.env = (false, eval a X.env) :: starEach [] X.env) : PE X (.Call (.Name "sorted" p) [.Call (.Name "set" p2) [a] [] q] [] pos) (tSet2 X.K true ta) := by
  refine ⟨fun pins s σ H Q I h => ?_⟩
  refine Call_ (ld_blt I hg hm PyProof.Rows.boot_sorted ?_)
  refine PyProof.Rows.callWith_builtin1 (PyProof.Rows.args_cons ?_ rfl) rfl rfl
  refine Call_ (ld_blt I hg2 hm2 PyProof.Rows.boot_set ?_)
  refine PyProof.Rows.callWith_type1 (PyProof.Rows.args_cons (thn (ha.run pins s σ H _ I h) fun v s1 ⟨x, H1, I1, r1, q1⟩ => PyProof.Rows.args_nil ?_) na) na rfl
  obtain ⟨l, ns, rfl, hq, h1, q1⟩ := q1
  cases r1
  obtain ⟨its, r, pl, hz⟩ := I1.tuple hq
  have hi : IntsAre its.toArray.toList ns := by simpa using r.ints
  refine call_set_tupI ns (I1.ok.hd hc) (show s1.heap.IsTuple l its.toArray from pl) hi (by unfold scanBound; omega) fun h' tk c hS hcn hk => ?_
  refine PyProof.Rows.args_nil ?_
  have I2 : Inv X pins σ H1 { s1 with heap := h', toks := tk } := I1.kept hk
  refine sorted_set (s := { s1 with heap := h', toks := tk }) hS (I1.ok.hd hc) (by omega) fun s' p out c2 ms k g o hp hg hout pw hmem hlen => ?_
  have hn : H1 p = none := I2.hok.fresh hp
  have hv : Vals (ms.map V.int) out.toList := vals_ints hout
  have hml : (ms.map V.int).length ≤ sizeLine := by rw [List.length_map, hlen, sizeLine_eq]; omega
  have J : Inv X pins σ (upd H1 p (.lst (ms.map V.int))) { s1 with heap := s'.heap, gens := s'.gens, drawn := s'.drawn, toks := s'.toks } :=
    Inv.call (s := { s1 with heap := h', toks := tk }) I2 (ch := []) (Un.laid k hp hn) (I2.hok.laid k hp ⟨hml, out.toList, c2, hv, hg⟩) (by rw [g]; exact I2.bare) (fun _ z => nomatch z)
  have e : s' = { s1 with heap := s'.heap, gens := s'.gens, drawn := s'.drawn, toks := s'.toks } := by
    cases s'
    cases s1
    cases o
    rfl
  rw [e]
  exact ⟨.ref p, _, J, rfl, (q1 ms (pw.imp fun h => Int.ne_of_lt h) (fun _ => pw) fun j => by rw [hmem j, decide_eq_true_eq]).1 rfl p hn⟩
theorem pe_lenSetT {a : Expr} {ta : TE} {p p2 q pos : Pos} (hc : X.calm = true) (hg : Gl X "len") (hm : X.mg "len" = none) (hg2 : Gl X "set") (hm2 : X.mg "set" = none) (ha : PE X a ta)
    (na : starEach [a] X.env = (false, eval a X.env) :: starEach [] X.env) : PE X (.Call (.Name "len" p) [.Call (.Name "set" p2) [a] [] q] [] pos) (tSet2 X.K false ta) := by
  refine ⟨fun pins s σ H Q I h => ?_⟩
  refine Call_ (ld_blt I hg hm PySem.boot_len ?_)
  refine PyProof.Rows.callWith_builtin1 (PyProof.Rows.args_cons ?_ rfl) rfl rfl
  refine Call_ (ld_blt I hg2 hm2 PyProof.Rows.boot_set ?_)
  refine PyProof.Rows.callWith_type1 (PyProof.Rows.args_cons (thn (ha.run pins s σ H _ I h) fun v s1 ⟨x, H1, I1, r1, q1⟩ => PyProof.Rows.args_nil ?_) na) na rfl
  obtain ⟨l, ns, rfl, hq, h1, q1⟩ := q1
  cases r1
  obtain ⟨its, r, pl, hz⟩ := I1.tuple hq
  have hi : IntsAre its.toArray.toList ns := by simpa using r.ints
  refine call_set_tupI ns (I1.ok.hd hc) (show s1.heap.IsTuple l its.toArray from pl) hi (by unfold scanBound; omega) fun h' tk c hS hcn hk => ?_
  refine PyProof.Rows.args_nil ?_
  have I2 : Inv X pins σ H1 { s1 with heap := h', toks := tk } := I1.kept hk
  obtain ⟨o, es, ep, t, ho, hex, hd, hgd, nd, hm2, hb, hf, hn, hr, hl⟩ := hS
  have hz2 : es.size = c := by rw [← hn]
  refine call_len_set ho hex hd hf (by omega) ⟨.int es.size, H1, I2.tok _, ⟨_, rfl⟩, ?_⟩
  have z := (q1 (es.toList.map keyOf) nd (fun e => by cases e) fun j => by rw [← hm2 j, decide_eq_true_eq]).2 rfl
  rw [List.length_map, Array.length_toList] at z
  exact z
end
/-! ### xs[:] = ys -/
section
variable {prog : Program} {w : World} {A : Around} {E : Value → Shared → Prop} {s : Shared}
theorem bounds_all (n : Nat) : sliceBounds none none none n = (0, (n : Int), 1) := by
  simp only [sliceBounds, Option.getD_none]
  rfl
set_option maxRecDepth 100000 in
theorem setItem_sliceAll {l b sl : Addr} {items new : Array Value} {n n2 : Nat} {vl vu : Value} {Q : Unit → Shared → Prop}
    (e : s.heap.get? l = some { cls := .type "list", data := .seq items n }) (e2 : s.heap.get? b = some { cls := .type "list", data := .seq new n2 }) (hne : l ≠ b)
    (hs : s.heap.IsSliceOf sl vl vu .none) (pl : IsPart vl none) (pu : IsPart vu none)
    (hsz : items.size + new.size ≤ sizeLine) (h : Q () { s with heap := s.heap.update l (Obj.mapSeq fun xs => xs.extract 0 0 ++ new ++ xs.extract items.size xs.size) }) :
    wpAny (model prog w) A (setItem (.ref l) (.ref sl) (.ref b)) Q E s := by
  have hl : s.heap.IsList l items := PySem.IsL.isList e
  have hb : s.heap.IsList b new := PySem.IsL.isList e2
  obtain ⟨os, hos, hcs, hds⟩ := id hs
  have hTs : s.TypeIs (.ref sl) "slice" := ⟨os, hos, hcs⟩
  have hstep : ¬ ((rawPart none == rawInt 0) = true) := Bool.false_ne_true
  have hsame : Builtin.List.listSameRef (.ref l) (.ref b) = false := by
    unfold Builtin.List.listSameRef
    exact beq_eq_false_iff_ne.mpr hne
  have hmax : (max (0 : Int) ((items.size : Nat) : Int)).toNat = items.size := by omega
  have hz' : ((fun xs : Array Value => xs.extract 0 0 ++ new ++ xs.extract items.size xs.size) items).size ≤ sizeLine + 1 := by
    simp only [Array.size_append, Array.size_extract]
    omega
  unfold setItem
  try with_reducible refine wpAny_holding ?_
  first | refine wpAny_bind (wpAny_pure ?_) | skip
  refine wpAny_bind (wpAny_sequenceKey hl.typeIs (by decide) ?_)
  refine wpAny_bind (wpAny_callSpecial?_slot (name := Str.ofString "__setitem__") hl.typeIs slot_list_setitem
    (wpAny_call_entry slot_list_setitem hl.typeIs entry_list_setitem ?_ (args_list_setitem _ _ _)))
  show wpAny _ _ (Builtin.List.listSubscript? (.ref sl) >>= _) _ _ s
  refine wpAny_bind ?_
  unfold Builtin.List.listSubscript?
  refine wpAny_bind (wpAny_specialOf hTs slice_no_index ?_)
  simp only [Option.isNone_none, if_true]
  refine wpAny_pure ?_
  show wpAny _ _ (typeOf (.ref sl) >>= _) _ _ s
  refine wpAny_bind (wpAny_typeOf hTs ?_)
  first
    | rw [if_neg (by decide)]
    | refine PySem.W.KFB.if_not (by decide) ?_
  rw [listSliceParts_eq]
  refine wpAny_bind (wpAny_bind (wpAny_field hos hds (x := .none) rfl (wpAny_bind (wpAny_listPart .none ?_))))
  rw [if_neg hstep]
  refine wpAny_bind (wpAny_field hos hds (x := vl) rfl (wpAny_bind (wpAny_listPart pl ?_)))
  refine wpAny_bind (wpAny_field hos hds (x := vu) rfl (wpAny_bind (wpAny_listPart pu (wpAny_pure ?_))))
  first
    | simp only [hsame, Bool.false_eq_true, if_false]
    | refine PySem.W.KFB.if_not hsame ?_
    | (dsimp only
       rw [if_neg (by rw [hsame]; exact Bool.false_ne_true)])
  refine wpAny_bind (m := Builtin.List.listAllItems (.ref b) "must assign iterable to extended slice") ?_
  unfold Builtin.List.listAllItems
  refine wpAny_bind (wpAny_typeOf hb.typeIs ?_)
  first
    | refine PySem.W.KFB.if_so (by decide) ?_
    | rw [if_pos (by decide)]
    | simp only [beq_self_eq_true, Bool.true_or, if_true]
  unfold Builtin.List.listItems
  refine wpAny_bind (wpAny_seqItems e2 rfl (wpAny_pure ?_))
  refine wpAny_bind (wpAny_bind (wpAny_seqItems e rfl (wpAny_pure ?_)))
  refine wpAny_bind (wpAny_of_eq ((sliceIndices_raw none none none items.size (by simp)).trans (congrArg (pure : Int × Int × Int → Sem (Int × Int × Int)) (bounds_all items.size))) ?_)
  show wpAny _ _ (if ((1 : Int) == 1) = true then _ else _) _ _ s
  rw [if_pos (by decide)]
  refine wpAny_bind (wpAny_rule ?_)
  first
    | simp only [notLongL hsz, Bool.false_eq_true, if_false]
    | refine PySem.W.KFB.if_not (notLongL hsz) ?_
  first | refine wpAny_bind (wpAny_pure ?_) | skip
  show wpAny _ _ (updateSeq l (fun xs => xs.extract 0 ((0 : Int)).toNat ++ new ++ xs.extract (max (0 : Int) ((items.size : Nat) : Int)).toNat xs.size) >>= _) _ _ s
  rw [hmax]
  refine wpAny_bind (wpAny_updateSeq (hz := Nat.le_trans (Nat.le_add_right _ _) hsz) (_hz' := hz') e rfl ?_)
  refine wpAny_bind (wpAny_letGo ?_)
  first
    | exact wpAny_bind (wpAny_pure (wpAny_pure ⟨.none, rfl, wpAny_pure h⟩))
    | exact wpAny_pure ⟨.none, rfl, wpAny_pure h⟩
end
section
variable {X : Cx}
theorem set_sliceAll {pins : List (Addr × Obj)} {s : Shared} {σ : L2.St} {H : Hp} {l b sl : Addr} {xs ys : List V} {vl vu : Value} {Q : Unit → Shared → Prop} (I : Inv X pins σ H s)
    (hH : H l = some (.lst xs)) (hB : H b = some (.lst ys)) (hne : l ≠ b) (hs : s.heap.IsSliceOf sl vl vu .none) (pl : IsPart vl none) (pu : IsPart vu none)
    (hz : xs.length + ys.length ≤ sizeLine) (h : ∀ s', Inv X pins σ (upd H l (.lst ys)) s' → Q () s') :
    wpAny (model X.prog X.w) X.A (setItem (.ref l) (.ref sl) (.ref b)) Q X.xe s := by
  obtain ⟨z, its, n, r, hl, e⟩ := I.lstM hH
  obtain ⟨z2, its2, n2, r2, hl2, e2⟩ := I.lstM hB
  refine setItem_sliceAll e e2 hne hs pl pu (by rw [List.size_toArray, List.size_toArray]; omega) (h _ ?_)
  refine I.lset (its' := its2) (t' := s.toks) hH e ?_ r2 (by omega)
  apply Array.toList_inj.mp
  simp
/-- xs[:] = .. -/
def gSlA (K : Frag) (to : TE) : TG := fun v σ H Q => to σ H fun o H1 => ∃ a b xs ys, o = .ref a ∧ v = .ref b ∧ H1 a = some (.lst xs) ∧ H1 b = some (.lst ys) ∧ a ≠ b ∧ xs.length + ys.length ≤ sizeLine ∧ Q σ (upd H1 a (.lst ys))
theorem pg_slA {o : Expr} {to : TE} {p pos : Pos} (ho : PE X o to) : PG X (.Subscript o (.Slice none none none p) pos) (gSlA X.K to) := by
  refine ⟨fun pins s σ H v u Q I r h => ?_⟩
  have ha : assign (.Subscript o (.Slice none none none p) pos) X.env u = (do
      let ov ← holding [u] (eval o X.env)
      let iv ← holding [u, ov] (eval (.Slice none none none p) X.env)
      standAt pos
      holding [u, ov, iv] (setItem ov iv u)
      release [iv, u, ov] []) := by rfl
  rw [ha]
  refine wpAny_bind (wpAny_holding (thn (ho.run pins s σ H _ I h) fun ov s1 ⟨x, H1, I1, r1, q1⟩ => ?_))
  obtain ⟨a, b, xs, ys, rfl, rfl, h1, h2, hne, hz, q⟩ := q1
  cases r1
  cases r
  refine wpAny_bind (wpAny_holding ?_)
  refine wpAny_Slice ?_
  rw [evalPart_none]
  refine wpAny_pure ?_
  refine wpAny_pure ?_
  refine wpAny_pure ?_
  have I4 : Inv X pins σ H1 { s1 with heap := s1.heap.push { cls := .type "slice", data := .fields #[.none, .none, .none] } } := I1.kept (t' := s1.toks) fun b ob q => Heap.get?_push_of_some _ q
  refine wpAny_bind (wpAny_standAt (wpAny_bind (wpAny_holding ?_)))
  refine set_sliceAll (sl := s1.heap.objs.size) I4 h1 h2 hne (Heap.IsSliceOf.new ..) .none .none hz fun s' I5 => ?_
  exact wpAny_release ⟨σ, _, I5, q⟩
end
end DL

/-! DL5n: tuples of ints sorted; dicts of tuples as lists, their lengths, sorted. -/
namespace DL
open PySem L2 PySem.Spec PyProof.Rows
/-! ### the order -/
theorem lexN_asym : ∀ {p q : List Int}, lexN p q = true → lexN q p = false
  | [], [], h => by cases h
  | [], _ :: _, _ => rfl
  | _ :: _, [], h => by cases h
  | x :: p, y :: q, h => by
    unfold lexN at h ⊢
    by_cases e : x = y
    · rw [if_pos e] at h
      rw [if_pos e.symm]
      exact lexN_asym h
    · rw [if_neg e] at h
      rw [if_neg fun z => e z.symm]
      have := of_decide_eq_true h
      exact decide_eq_false (by omega)
theorem lexN_neg : ∀ {p q r : List Int}, lexN q p = false → lexN r q = false → lexN r p = false
  | _, _, [], h1, h2 => by
    rename_i p q
    cases q with
    | nil => exact h1
    | cons y q => cases h2
  | [], _, _ :: _, h1, h2 => rfl
  | x :: p, q, z :: r, h1, h2 => by
    cases q with
    | nil => cases h1
    | cons y q =>
      unfold lexN at h1 h2 ⊢
      by_cases e1 : y = x
      · rw [if_pos e1] at h1
        by_cases e2 : z = y
        · rw [if_pos e2] at h2
          rw [if_pos (e2.trans e1)]
          exact lexN_neg h1 h2
        · rw [if_neg e2] at h2
          rw [if_neg fun e => e2 (e.trans e1.symm)]
          have := of_decide_eq_false h2
          exact decide_eq_false (by omega)
      · rw [if_neg e1] at h1
        have h1 := of_decide_eq_false h1
        by_cases e2 : z = y
        · rw [if_neg (by omega)]
          exact decide_eq_false (by omega)
        · rw [if_neg e2] at h2
          have h2 := of_decide_eq_false h2
          rw [if_neg (by omega)]
          exact decide_eq_false (by omega)
theorem lexN_cons (x y : Int) (p q : List Int) : lexN (x :: p) (y :: q) = if x = y then lexN p q else decide (x < y) := rfl
theorem lexN_self : ∀ (p : List Int), lexN p p = false
  | [] => rfl
  | x :: p => by unfold lexN; rw [if_pos rfl]; exact lexN_self p
theorem swo_lexN (k : Value → List Int) : SrtO.Swo fun v u => lexN (k v) (k u) := ⟨fun x y h => lexN_asym h, fun x y z h1 h2 => lexN_neg h1 h2⟩
/-! ### tuples of ints in the heap -/
abbrev IntsP : List Int → List Value → Prop := Paired fun (i : Int) (u : Value) => ∃ t, u = Value.int i t
def IsInts (h : Heap) (v : Value) (p : List Int) : Prop := ∃ a o its n, v = .ref a ∧ h.get? a = some o ∧ o.cls = .type "tuple" ∧ o.data = .seq its n ∧ IntsP p its.toList
theorem IsInts.keeps {h h' : Heap} {v : Value} {p : List Int} (x : IsInts h v p) (k : ∀ b o, h.get? b = some o → o.cls = .type "tuple" → h'.get? b = some o) : IsInts h' v p := by
  obtain ⟨a, o, its, n, e, ho, hc, hd, r⟩ := x
  exact ⟨a, o, its, n, e, k _ _ ho hc, hc, hd, r⟩
section
variable {prog : Program} {w : World} {A : Around} {s : Shared} {E : Value → Shared → Prop}
theorem kat_ints {s : Shared} (fin : Bool) : ∀ (p q : List Int) (us ws : List Value) (i : Nat) (r : Bool), IntsP p us → IntsP q ws → fin = decide (p.length < q.length) → r = lexN p q →
    PySem.W.KatLex prog w A true fin (fun c s' => s' = s ∧ c = r) (us.zip ws) i s
  | [], [], _, _, i, r, .nil, .nil, e, er => PySem.W.kat_nil ⟨rfl, by rw [e, er]; rfl⟩
  | [], y :: q, _, _, i, r, .nil, .cons _ _, e, er => PySem.W.kat_nil ⟨rfl, by rw [e, er]; exact decide_eq_true (by simp)⟩
  | x :: p, [], _, _, i, r, .cons _ _, .nil, e, er => PySem.W.kat_nil ⟨rfl, by rw [e, er]; exact decide_eq_false (by simp)⟩
  | x :: p, y :: q, u :: us, v :: ws, i, r, .cons h1 t1, .cons h2 t2, e, er => by
    obtain ⟨t, rfl⟩ := h1
    obtain ⟨t', rfl⟩ := h2
    show PySem.W.KatLex prog w A true fin _ ((.int x t, .int y t') :: us.zip ws) i s
    refine PySem.W.kat_cons (SeqAt.EqAt.int_int x t y t' prog w _ _ ?_)
    refine PySem.W.kat_go (fun e1 => ?_) (fun e1 => ?_)
    · have ex : x = y := by simpa using e1
      refine PySem.W.kat_yes (kat_ints fin p q us ws (i + 1) r t1 t2 (by rw [e]; simp) ?_)
      rw [er, lexN_cons, if_pos ex]
    · have ex : ¬ x = y := by simpa using e1
      have e3 : r = decide (x < y) := by rw [er, lexN_cons, if_neg ex]
      refine PySem.W.kat_no ?_
      cases i with
      | zero => exact PyProof.Rows.oneLt_int ⟨rfl, e3.symm⟩
      | succ i => exact PySem.W.kat_one _ _ (PyProof.Rows.lt_int ⟨rfl, e3.symm⟩)
theorem ints_cmp {vs : List Value} {k : Value → List Int} (hp : ∀ v ∈ vs, IsInts s.heap v (k v)) : SrtO.Cmp prog w A s (tuples' true) (fun p => p.1 ∈ vs) (SrtO.lt2 fun v u => lexN (k v) (k u)) := by
  intro p q hm hm'
  have h1 := hp _ hm
  have h2 := hp _ hm'
  show wpAny (model prog w) A (keyLt' (tuples' true) p.1 q.1) (fun r s' => s' = s ∧ r = lexN (k p.1) (k q.1)) (fun _ _ => False) s
  obtain ⟨a, o, its, n, e, ho, hc, hd, r1⟩ := h1
  obtain ⟨a', o', its', n', e', ho', hc', hd', r2⟩ := h2
  have l1 := Paired.length r1
  have l2 := Paired.length r2
  generalize k p.1 = x at r1 l1 ⊢
  generalize k q.1 = y at r2 l2 ⊢
  rw [e, e']
  refine PySem.W.kat_lt ho hd ho' hd' ?_
  exact kat_ints _ x y _ _ 0 _ r1 r2 (by rw [l1, l2, Array.length_toList, Array.length_toList]) rfl
theorem firsts_ints {h : Heap} : ∀ {vs : List Value} {k : Value → List Int}, (∀ v ∈ vs, IsInts h v (k v) ∧ k v ≠ []) → ∃ fs : List Value, PySem.W.KatTups h vs fs ∧ fs.length = vs.length ∧ ∀ f ∈ fs, ∃ x t, f = Value.int x t
  | [], _, _ => ⟨[], PySem.W.KatTups.nil, rfl, fun _ hm => by simp at hm⟩
  | v :: vs, k, hp => by
    obtain ⟨fs, h1, h2, h3⟩ := firsts_ints (vs := vs) (k := k) fun v' hm => hp v' (List.mem_cons_of_mem _ hm)
    obtain ⟨⟨a, o, its, n, e, ho, hc, hd, r⟩, hne⟩ := hp v (List.mem_cons_self ..)
    subst e
    cases hk : k (.ref a) with
    | nil => exact (hne hk).elim
    | cons x p =>
      rw [hk] at r
      obtain ⟨l, rfl⟩ : ∃ l : List Value, its = l.toArray := ⟨its.toList, by simp⟩
      rw [List.toList_toArray] at r
      cases r with
      | cons h t =>
        obtain ⟨tk, rfl⟩ := h
        refine ⟨.int x tk :: fs, PySem.W.KatTups.cons ho hc hd (by simp) h1, by rw [List.length_cons, List.length_cons, h2], fun f hm => ?_⟩
        rcases List.mem_cons.mp hm with rfl | hm
        · exact ⟨x, tk, rfl⟩
        · exact h3 f hm
theorem ints_sortable {a : Addr} {vs : List Value} {k : Value → List Int} (h0 : 0 < vs.length) (hp : ∀ v ∈ vs, IsInts s.heap v (k v) ∧ k v ≠ []) (ha : ∀ o, s.heap.get? a = some o → o.cls ≠ .type "tuple") : SrtO.SortableO prog w A s a vs fun v u => lexN (k v) (k u) := by
  intro h' keep
  have hp' : ∀ v ∈ vs, IsInts h' v (k v) := fun v hm => (hp v hm).1.keeps fun b o e c => keep b o (fun z => by subst z; exact ha o e c) e
  obtain ⟨fs, h1, h2, h3⟩ := firsts_ints (k := k) fun v hm => ⟨hp' v hm, (hp v hm).2⟩
  refine ⟨tuples' true, fun Q E hq => ?_, ints_cmp hp'⟩
  refine PySem.W.kat_kind (T := .type "int") h1 (by omega) (fun f hm => ?_) (by rfl) ?_
  · obtain ⟨x, t, rfl⟩ := h3 f hm
    exact PySem.W.Looks.now
  · have e : (Value.type "int" != Value.type "tuple") = true := by first | decide +kernel | rfl | decide
    rw [e]
    exact hq
theorem sorted_ints {l : Addr} {vs : List Value} {k : Value → List Int} {Q : Value → Shared → Prop} (hl : s.heap.IsList l vs.toArray) (hz : vs.length ≤ sizeLine) (hp : ∀ v ∈ vs, IsInts s.heap v (k v) ∧ k v ≠ [])
    (h : ∀ (h' : Heap) (d : Addr) (out : List Value), SrtO.Srtd (fun v u => lexN (k v) (k u)) out → SrtO.Stb (fun v u => lexN (k v) (k u)) out vs → (∀ b o, s.heap.get? b = some o → h'.get? b = some o) → s.heap.objs.size ≤ d → (∃ n, h'.get? d = some (seqObj "list" out.toArray n)) → Q (.ref d) { s with heap := h' }) :
    wpAny (model prog w) A (call (.builtin "sorted") [.ref l]) Q E s := by
  refine SrtO.sorted_ord (swo_lexN k) hl hz (fun h2 h₁ a ha kk => ?_) fun out hs hb => ?_
  · refine ints_sortable (s := { s with heap := h₁ }) (by omega) (fun v hm => ⟨(hp v hm).1.keeps fun b o e _ => (kk b o e).2, (hp v hm).2⟩) fun o e => ?_
    have e' : some o = some (seqObj "list" vs.toArray 0) := e.symm.trans ha
    cases e'
    intro c
    exact absurd (Value.type.inj c) (by decide)
  · exact h _ _ out hs hb (fun b o e => PyProof.Rows.sortedAll_old e) (Nat.le_succ _) (PyProof.Rows.sortedAll_at s.heap vs out.toArray)
end
/-! ### the calls -/
section
variable {X : Cx} {cx : Cls2}
def intsAt (h : Heap) : Value → List Int
  | .ref b => match h.get? b with
    | some o => match o.data with
      | .seq a _ => a.toList.map fun u => match u with | .int x _ => x | _ => 0
      | _ => []
    | none => []
  | _ => []
theorem ints_vals : ∀ {p : List Int} {us : List Value}, Vals (p.map V.int) us → IntsP p us ∧ us.map (fun u => match u with | .int x _ => x | _ => 0) = p
  | [], _, .nil => ⟨.nil, rfl⟩
  | x :: p, u :: us, .cons h t => by
    obtain ⟨i1, i2⟩ := ints_vals (p := p) t
    obtain ⟨tk, rfl⟩ := h
    exact ⟨.cons ⟨tk, rfl⟩ i1, by rw [List.map_cons, i2]⟩
/-- a value that is a tuple of ints -/
theorem ints_one {pins : List (Addr × Obj)} {σ : L2.St} {H : Hp} {s : Shared} (I : Inv X pins σ H s) {p : List Int} {b : Addr} (r : RepV X.K H (tupI p) (.ref b)) : intsAt s.heap (.ref b) = p ∧ IsInts s.heap (.ref b) p := by
  obtain ⟨t, vs, e, hq, rr⟩ := r
  cases e
  have e := rr.ints
  subst e
  obtain ⟨its, rv, ⟨o, ho, hc, n, hd⟩, _⟩ := I.tuple hq
  obtain ⟨h1, h2⟩ := ints_vals rv
  refine ⟨?_, ⟨b, o, its.toArray, n, rfl, ho, hc, hd, h1⟩⟩
  show (match s.heap.get? b with | some o => (match o.data with | .seq a _ => a.toList.map (fun u => match u with | .int x _ => x | _ => 0) | _ => []) | none => []) = p
  rw [ho]
  show (match o.data with | .seq a _ => a.toList.map (fun u => match u with | .int x _ => x | _ => 0) | _ => []) = p
  rw [hd]
  exact h2
/-- the values of a list of tuples of ints -/
theorem ints_each {pins : List (Addr × Obj)} {σ : L2.St} {H : Hp} {s : Shared} (I : Inv X pins σ H s) : ∀ {ps : List (List Int)} {us : List Value}, Paired (fun (p : List Int) (u : Value) => ∃ b, u = .ref b ∧ RepV X.K H (tupI p) (.ref b)) ps us →
    ps = us.map (intsAt s.heap) ∧ ∀ u ∈ us, ∃ b, u = .ref b ∧ IsInts s.heap u (intsAt s.heap u) ∧ RepV X.K H (tupI (intsAt s.heap u)) (.ref b)
  | [], _, .nil => ⟨rfl, fun u h => by cases h⟩
  | p :: ps, u :: us, .cons ⟨b, e, r⟩ t => by
    subst e
    obtain ⟨i1, i2⟩ := ints_each I t
    obtain ⟨h1, h2⟩ := ints_one I r
    refine ⟨by rw [List.map_cons, h1, ← i1], fun u hu => ?_⟩
    rcases List.mem_cons.mp hu with rfl | hu
    · rw [h1]; exact ⟨b, rfl, h2, r⟩
    · exact i2 u hu
theorem ints_rep {K : Frag} {H : Hp} {f : Value → List Int} : ∀ (l : List Value), (∀ u ∈ l, ∃ b, u = .ref b ∧ RepV K H (tupI (f u)) (.ref b)) → RepL K H ((l.map f).map tupI) (l.map backV)
  | [], _ => .nil
  | u :: l, h => by
    obtain ⟨b, e, r⟩ := h u List.mem_cons_self
    subst e
    exact .cons r (ints_rep l fun x hx => h x (List.mem_cons_of_mem _ hx))
theorem rep_refs {K : Frag} {H : Hp} : ∀ {ps : List (List Int)} {vs : List V} {us : List Value}, RepL K H (ps.map tupI) vs → Vals vs us → Paired (fun (p : List Int) (u : Value) => ∃ b, u = .ref b ∧ RepV K H (tupI p) (.ref b)) ps us
  | [], _, us, e, r => by cases e; cases r; exact .nil
  | p :: ps, _, us, ⟨v, vr, e, r, rr⟩, rv => by
    subst e
    cases rv with
    | cons h t =>
      obtain ⟨b, vs, rfl, h1, h2⟩ := r
      cases h
      exact .cons ⟨b, rfl, b, vs, rfl, h1, h2⟩ (rep_refs rr t)
theorem call1_sortedN : CallR X (.builtin "sorted") (c1of X.K cx .sortedN) := by
  intro pins s σ H xs us Q I r w
  obtain ⟨v, rfl, S, a, hr, ra, w⟩ := w
  obtain ⟨c, w, hc⟩ := view_of hr ra w
  obtain ⟨ps, rfl, hne, k⟩ := w
  obtain ⟨p, vs, rfl, hp, r1⟩ := hc
  obtain ⟨its, rv, hl, hz⟩ := I.list (SqL.of hp)
  obtain ⟨u, rfl, ru⟩ := vals1 r
  obtain rfl : u = Value.ref p := ru
  obtain ⟨ep, each⟩ := ints_each I (rep_refs r1 rv)
  refine sorted_ints (k := intsAt s.heap) hl.isList (by rw [← rv.length]; exact hz) (fun v hv => ?_) fun h' d out h1 h2 kp hd hn => ?_
  · obtain ⟨b, _, h, _⟩ := each v hv
    exact ⟨h, hne _ (by rw [ep]; exact List.mem_map_of_mem hv)⟩
  have h3 : ∀ u ∈ out, ∃ a, u = Value.ref a := fun u hu => let ⟨b, e, _⟩ := each u (h2.perm.mem_iff.mp hu); ⟨b, e⟩
  obtain ⟨n, hn⟩ := hn
  have hln : (out.map backV).length ≤ sizeLine := by
    rw [List.length_map, h2.perm.length_eq, ← rv.length]
    exact hz
  refine ⟨.ref d, upd H d (.lst (out.map backV)), I.laid (t' := s.toks) kp hd ⟨hln, out, n, vals_back h3, hn⟩, rfl, ?_⟩
  refine fin_vl (k (out.map (intsAt s.heap)) ?_ ?_) hr (ints_rep out fun u hu => let ⟨b, e, _, h⟩ := each u (h2.perm.mem_iff.mp hu); ⟨b, e, h⟩) d (I.hok.fresh hd)
  · rw [ep]; exact h2.perm.map _
  · show List.Pairwise _ _
    rw [List.pairwise_map]
    exact h1
theorem dn_keys {K : Frag} {H : Hp} : ∀ {kvs : List (D × D)} {xs : List NE}, DnR K H kvs xs → RepL K H (kvs.map Prod.fst) (xs.map fun x => V.ref x.2.1)
  | _, _, .nil => .nil
  | _, _, .cons h t => .cons h.2.2.1 (dn_keys t)
theorem items_keys {acc : Array Value} {es : Array DictEntry} {w : World} {xs : List NE} (he : es.toList = xs.map (entN w)) (it : ItemsOf (fun i v => ∃ en : DictEntry, es[i]? = some en ∧ v = en.key) acc es.size) : acc.toList = xs.map fun x => Value.ref x.2.1 := by
  have les : es.size = xs.length := by rw [← Array.length_toList, he, List.length_map]
  have hl : acc.toList.length = xs.length := by rw [Array.length_toList, it.1]; exact les
  apply List.ext_getElem?
  intro j
  rw [List.getElem?_map]
  cases hj : acc.toList[j]? with
  | none =>
    have h1 := List.getElem?_eq_none_iff.mp hj
    rw [List.getElem?_eq_none (by omega)]
    rfl
  | some v =>
    obtain ⟨en, hen, hv⟩ := it.2 j v (by rw [← Array.getElem?_toList]; exact hj)
    rw [← Array.getElem?_toList, he, List.getElem?_map] at hen
    cases hb : xs[j]? with
    | none => rw [hb] at hen; cases hen
    | some x =>
      rw [hb] at hen
      cases hen
      rw [hv]; rfl
theorem key_rep {K : Frag} {H : Hp} {d : D} (h : keyD d = true) : RepV K H d (kV (keyK d)) := by
  cases d <;> first | rfl | cases h
theorem dk_keys {K : Frag} {H : Hp} : ∀ {kvs : List (D × D)} {ks : List (Key × V)}, DicR K H kvs ks → RepL K H (kvs.map Prod.fst) (ks.map fun kv => kV kv.1)
  | _, _, .nil => .nil
  | _, _, .cons h t => .cons (by
      obtain ⟨h1, h2⟩ := KeyR.of h.1
      show RepV K H _ (kV _)
      rw [h2]
      exact key_rep h1) (dk_keys t)
theorem call1_listK (hcalm : X.calm = true) : CallR X (.type "list") (c1of X.K cx .listK) := by
  intro pins s σ H xs us Q I r w
  obtain ⟨v, rfl, S, a, hr, ra, w⟩ := w
  obtain ⟨c, w, hc⟩ := view_of hr ra w
  obtain ⟨kvs, rfl, k⟩ := w
  obtain ⟨p, ks, rfl, hp, rd⟩ := hc
  exact call_list_dK hcalm pins s σ H _ us Q I r ⟨p, ks, rfl, hp, fin_vl k hr (dk_keys rd)⟩
theorem call1_listDn (hcalm : X.calm = true) (hw : cx.w = X.w) : CallR X (.type "list") (c1of X.K cx .listDn) := by
  intro pins s σ H xs us Q I r w
  obtain ⟨v, rfl, S, a, hr, ra, w⟩ := w
  obtain ⟨c, w, hc⟩ := view_of hr ra w
  obtain ⟨kvs, rfl, k⟩ := w
  obtain ⟨d, xs, rfl, hd, rd⟩ := hc
  rw [hw] at hd
  obtain ⟨u, rfl, ru⟩ := vals1 r
  obtain rfl : u = Value.ref d := ru
  obtain ⟨o, es, ep, ho, hx, hdt, he⟩ := dn_obj I (.inl hd)
  have les : es.size = xs.length := by rw [← Array.length_toList, he, List.length_map]
  refine PySem.W.kdl_call (L2.kdl_raw rd.m hx hdt) (I.ok.hd hcalm) ho (by rw [les]; exact rd.z) fun h' tk acc' c' kp e it => ?_
  have ea := items_keys he it
  have rv : Vals (xs.map fun x => V.ref x.2.1) acc'.toList := by rw [ea]; exact vals_maps (fun x : NE => V.ref x.2.1) (fun x => Value.ref x.2.1) xs fun _ _ => rfl
  refine ⟨.ref s.heap.objs.size, _, I.laid (t' := tk) (o := .lst (xs.map fun x => V.ref x.2.1)) kp (Nat.le_refl _) ⟨by rw [List.length_map]; exact rd.z, acc'.toList, c', rv, by rw [Array.toArray_toList]; exact e⟩, rfl, ?_⟩
  exact fin_vl k hr (dn_keys rd.r) _ (I.hok.fresh (Nat.le_refl _))
theorem call1_lenDn (hw : cx.w = X.w) : CallR X (.builtin "len") (c1of X.K cx .lenDn) := by
  intro pins s σ H xs us Q I r w
  obtain ⟨v, rfl, S, a, hr, ra, w⟩ := w
  obtain ⟨c, w, hc⟩ := view_of hr ra w
  obtain ⟨kvs, rfl, k⟩ := w
  obtain ⟨d, xs, rfl, hd, rd⟩ := hc
  rw [hw] at hd
  obtain ⟨u, rfl, ru⟩ := vals1 r
  obtain rfl : u = Value.ref d := ru
  have hl := rd.r.length
  have hz := rd.z
  refine call_len_dictH rd.m (dn_of I (.inl hd) rd) (by rw [sizeLine_eq] at hz; omega) ?_
  rw [← hl]
  exact ⟨.int ((kvs.length : Nat) : Int), H, I.tok _, ⟨_, rfl⟩, fin_int k hr⟩
theorem call1_sortedDn (hcalm : X.calm = true) (hw : cx.w = X.w) : CallR X (.builtin "sorted") (c1of X.K cx .sortedDn) := by
  intro pins s σ H xs us Q I r w
  obtain ⟨v, rfl, S, a, hr, ra, w⟩ := w
  obtain ⟨c, w, hc⟩ := view_of hr ra w
  obtain ⟨kvs, ps, rfl, hks, hne, k⟩ := w
  obtain ⟨d, xs, rfl, hd, rd⟩ := hc
  rw [hw] at hd
  obtain ⟨u, rfl, ru⟩ := vals1 r
  obtain rfl : u = Value.ref d := ru
  obtain ⟨o, es, ep, ho, hx, hdt, he⟩ := dn_obj I (.inl hd)
  have les : es.size = xs.length := by rw [← Array.length_toList, he, List.length_map]
  have rk := dn_keys rd.r
  rw [hks] at rk
  refine Calls.call_function_entry PyProof.Rows.kind_sorted PyProof.Rows.plain_sorted PyProof.Rows.entry_sorted (PyProof.Rows.args_sorted1 _) ?_
  unfold Builtin.«sorted»
  refine wpAny_bind (m := checkCount "sorted" 1 1 _) (wpAny_pure ?_)
  refine wpAny_bind (PySem.W.kdu_collect (A := X.A.in1) (L2.kdl_raw rd.m hx hdt) (I.ok.hd hcalm) ho (by rw [les]; exact rd.z) fun h' tk acc hk hacc => ?_)
  have ea := items_keys he hacc
  have I1 : Inv X pins σ H { s with heap := h', toks := tk } := I.kept hk
  have rv : Vals (xs.map fun x => V.ref x.2.1) acc.toList := by rw [ea]; exact vals_maps (fun x : NE => V.ref x.2.1) (fun x => Value.ref x.2.1) xs fun _ _ => rfl
  have hal : acc.toList.length ≤ sizeLine := by rw [ea, List.length_map]; exact rd.z
  obtain ⟨ep', each⟩ := ints_each I1 (rep_refs rk rv)
  refine wpAny_bind (wpAny_newList ?_ hal)
  have hoL : (h'.push (seqObj "list" acc.toList.toArray 0)).get? h'.objs.size = some (seqObj "list" acc.toList.toArray 0) := Heap.get?_push_size _ rfl
  show wpAny _ _ _ _ _ { s with heap := h'.push (seqObj "list" acc.toList.toArray 0), toks := tk }
  refine wpAny_bind (wpAny_holding (wpAny_call_entry PyProof.Rows.slot_list_sort ⟨_, hoL, rfl⟩ PyProof.Rows.entry_list_sort
    (SrtO.list_sort_ord (s := { s with heap := h'.push (seqObj "list" acc.toList.toArray 0), toks := tk }) (swo_lexN (intsAt h')) hoL hal (fun h2 => ints_sortable (by omega) (fun v hv => ?_) fun o e => ?_) fun out h1 h2 => ⟨_, rfl, ?_⟩) (PyProof.Rows.args_list_sort _)))
  · obtain ⟨b, _, h, _⟩ := each v hv
    exact ⟨h.keeps fun b o e _ => Heap.get?_push_of_some _ e, hne _ (by rw [ep']; exact List.mem_map_of_mem hv)⟩
  · have e' : some o = some (seqObj "list" acc.toList.toArray 0) := e.symm.trans hoL
    cases e'
    intro c
    exact absurd (Value.type.inj c) (by decide)
  obtain ⟨e', he'⟩ := PyProof.Rows.sortedHeap_at (vs := acc.toList) (out := out.toArray) hoL
  have h3 : ∀ u ∈ out, ∃ a, u = Value.ref a := fun u hu => let ⟨b, e, _⟩ := each u (h2.perm.mem_iff.mp hu); ⟨b, e⟩
  have hlen : (out.map backV).length ≤ sizeLine := by
    rw [List.length_map, h2.perm.length_eq]
    exact hal
  refine wpAny_pure ⟨_, rfl, .ref h'.objs.size, upd H h'.objs.size (.lst (out.map backV)), I1.laid (t' := tk) (fun b u e => ?_) (Nat.le_refl _)
    (show ObjOk X.prog X.w _ _ _ (.lst (out.map backV)) from ⟨hlen, out, e', vals_back h3, he'⟩), rfl, ?_⟩
  · have hb : b < h'.objs.size := Heap.lt_size e
    rw [PyProof.Rows.sortedHeap_old (Nat.ne_of_lt hb) (by rw [size_push']; exact Nat.lt_succ_of_lt hb)]
    exact Heap.get?_push_of_some _ e
  · refine fin_vl (k (out.map (intsAt h')) ?_ ?_) hr (ints_rep out fun u hu => let ⟨b, e, _, h⟩ := each u (h2.perm.mem_iff.mp hu); ⟨b, e, h⟩) _ (I1.hok.fresh (Nat.le_refl _))
    · rw [ep']; exact h2.perm.map _
    · show List.Pairwise _ _
      rw [List.pairwise_map]
      exact h1
end
end DL

/-! DL6: the meanings as readings of the hand layer; expressions are sound, case by case. -/
namespace DL
open PySem L2 PySem.Spec PyProof.Rows
def RelX (K : Frag) (S : Hs) (H : Hp) (σ2 : Sl) (σ : L2.St) : Prop := σ2.length = σ.length ∧ ∀ (i : Nat) (x : Vx), σ2[i]? = some (some x) → ∃ v, σ[i]? = some (some v) ∧ RepX K H S x v
abbrev WE := Sl → Hs → LK2 → Prop
abbrev WI := Sl → Hs → (It2 → Hs → Prop) → Prop
/-- what is wanted of an expression's value -/
def kE (K : Frag) (cx : Cls2) (S : Hs) (H : Hp) (Q : VK) : LK2 := fun xs S' => ∃ x, xs = [x] ∧ KVof K cx S H Q x S'
def liftE (K : Frag) (cx : Cls2) (w : WE) : TE := fun σ H Q => ∃ S σ2, Rel K cx S H ∧ RelX K S H σ2 σ ∧ w σ2 S (kE K cx S H Q)
/-- .. of arguments -/
def kA (K : Frag) (cx : Cls2) (S : Hs) (H : Hp) (Q : List V → Hp → Prop) : LK2 := fun xs S' => ∀ vs H', Rel K cx S' H' → Keep S S' H H' → Paired (RepX K H' S') xs vs → Q vs H'
def liftA (K : Frag) (cx : Cls2) (w : WE) : TA := fun σ H Q => ∃ S σ2, Rel K cx S H ∧ RelX K S H σ2 σ ∧ w σ2 S (kA K cx S H Q)
/-- .. of a test -/
def kT (K : Frag) (cx : Cls2) (S : Hs) (H : Hp) (Q : Bool → Hp → Prop) : LK2 := one1 (tstK fun b S' => ∀ H', Rel K cx S' H' → Keep S S' H H' → Q b H')
def liftT (K : Frag) (cx : Cls2) (w : WE) : TT := fun σ H Q => ∃ S σ2, Rel K cx S H ∧ RelX K S H σ2 σ ∧ w σ2 S (kT K cx S H Q)
section
variable {K : Frag} {cx : Cls2} {S S' S1 : Hs} {H H' H1 H0 : Hp} {Q : VK} {σ2 : Sl} {σ : L2.St}
theorem RepX.keep (k : Keep S S' H H') (hr : Rel K cx S H) {x : Vx} {v : V} (r : RepX K H S x v) : RepX K H' S' x v := by
  have t := k.tups hr
  cases x with
  | d y => exact RepV.keep t _ _ r
  | vl ds => obtain ⟨a, vs, e, h, n, r⟩ := r; exact ⟨a, vs, e, (k.kp _ _ h n).1, (k.kp _ _ h n).2, r.keep t⟩
  | bw ds => obtain ⟨a, vs, e, h, n, r⟩ := r; exact ⟨a, vs, e, (k.kp _ _ h n).1, (k.kp _ _ h n).2, r.keep t⟩
  | fz ds =>
    obtain ⟨a, vs, e, h, r⟩ := r
    refine ⟨a, vs, e, ?_, r.keep t⟩
    rcases h with ⟨o, h, n⟩ | h
    · exact .inl ⟨o, (k.kp _ _ h n).1, (k.kp _ _ h n).2⟩
    · exact .inr h
  | vd ds => obtain ⟨a, vs, e, h, n, r⟩ := r; exact ⟨a, vs, e, (k.kp _ _ h n).1, (k.kp _ _ h n).2, r.keep t⟩
  | bd ds => obtain ⟨a, vs, e, h, n, r⟩ := r; exact ⟨a, vs, e, (k.kp _ _ h n).1, (k.kp _ _ h n).2, r.keep t⟩
  | st ds => exact r.elim
theorem RelX.keep (k : Keep S S' H H') (hr : Rel K cx S H) (r : RelX K S H σ2 σ) : RelX K S' H' σ2 σ := ⟨r.1, fun i x e => let ⟨v, h1, h2⟩ := r.2 i x e; ⟨v, h1, h2.keep k hr⟩⟩
theorem RepR.of (k : Keep S S1 H H1) {x : Vx} {v : V} (r : RepR K H1 H' S' x v) : RepR K H H' S' x v := ⟨r.1, fun e => let ⟨a, h1, h2⟩ := r.2 e; ⟨a, h1, k.up a h2⟩⟩
theorem KVof.of (k : Keep S S1 H H1) {z : Vx} (q : KVof K cx S H Q z S') : KVof K cx S1 H1 Q z S' := fun v H' hr k' r => q v H' hr (k.trans k') (r.of k)
theorem one1_of {P : VK2} {xs : List Vx} (h : one1 P xs S) : ∃ x, xs = [x] ∧ P x S := by
  unfold one1 at h
  split at h
  · exact ⟨_, rfl, h⟩
  · exact h.elim
theorem tstK_of {P : Bool → Hs → Prop} {x : Vx} (h : tstK P x S) : ∃ b, x = .d (.bl b) ∧ P b S := by
  unfold tstK at h
  split at h
  · exact ⟨_, rfl, h⟩
  · exact h.elim
/-- lent -/
theorem RepX.bor {x : Vx} {v : V} (r : RepX K H S x v) : RepX K H S (DL.bor x) v := by
  cases x <;> exact r
theorem bor_own (x : Vx) : own (DL.bor x) = false := by cases x <;> rfl
end

/-! ### the step: an expression, then what follows -/
section
variable {T : Tbl} {c : Nat → List Vx → Hs → VK2 → Prop} {K : Frag} {cx : Cls2} {S : Hs} {H : Hp} {σ2 : Sl} {σ : L2.St}
theorem stepE (hc : CalMono c) {r : R} {P : VK2} {Q : VK} (hr : Rel K cx S H) (rs : RelX K S H σ2 σ) (w : wpE T c r σ2 S (one1 P))
    (h : ∀ x S1 v H1, Rel K cx S1 H1 → Keep S S1 H H1 → RelX K S1 H1 σ2 σ → RepR K H H1 S1 x v → P x S1 → Q v H1) : liftE K cx (wpE T c r) σ H Q :=
  ⟨S, σ2, hr, rs, wpE_mono hc w fun xs S1 q => let ⟨x, e, p⟩ := one1_of q; ⟨x, e, fun v H1 hr1 k r1 => h x S1 v H1 hr1 k (rs.keep k hr) r1 p⟩⟩
theorem stepA (hc : CalMono c) {r : R} {P : LK2} {Q : List V → Hp → Prop} (hr : Rel K cx S H) (rs : RelX K S H σ2 σ) (w : wpE T c r σ2 S P)
    (h : ∀ xs S1 vs H1, Rel K cx S1 H1 → Keep S S1 H H1 → RelX K S1 H1 σ2 σ → Paired (RepX K H1 S1) xs vs → P xs S1 → Q vs H1) : liftA K cx (wpE T c r) σ H Q :=
  ⟨S, σ2, hr, rs, wpE_mono hc w fun xs S1 p vs H1 hr1 k r1 => h xs S1 vs H1 hr1 k (rs.keep k hr) r1 p⟩
theorem stepT (hc : CalMono c) {r : R} {P : Bool → Hs → Prop} {Q : Bool → Hp → Prop} (hr : Rel K cx S H) (rs : RelX K S H σ2 σ) (w : wpE T c r σ2 S (one1 (tstK P)))
    (h : ∀ b S1 H1, Rel K cx S1 H1 → Keep S S1 H H1 → RelX K S1 H1 σ2 σ → P b S1 → Q b H1) : liftT K cx (wpE T c r) σ H Q :=
  ⟨S, σ2, hr, rs, wpE_mono hc w fun xs S1 => one1_mono fun x S1 => tstK_mono fun b S1 p H1 hr1 k => h b S1 H1 hr1 k (rs.keep k hr) p⟩
end

/-! ### the same reading, weaker -/
section
variable {X : Cx}
theorem peImp {e : Expr} {t t' : TE} (h : PE X e t) (i : ∀ σ H Q, t' σ H Q → t σ H Q) : PE X e t' := ⟨fun pins s σ H Q I w => h.run pins s σ H Q I (i _ _ _ w)⟩
theorem ptImp {e : Expr} {t t' : TT} (h : PT X e t) (i : ∀ σ H Q, t' σ H Q → t σ H Q) : PT X e t' := ⟨fun pins s σ H Q I w => h.run pins s σ H Q I (i _ _ _ w)⟩
theorem pwImp {e : Expr} {t t' : TT} (h : PW X e t) (i : ∀ σ H Q, t' σ H Q → t σ H Q) : PW X e t' := ⟨fun wh pins s σ H Q I w => h.run wh pins s σ H Q I (i _ _ _ w)⟩
theorem paImp {e : List Expr} {t t' : TA} (h : PA X e t) (i : ∀ σ H Q, t' σ H Q → t σ H Q) : PA X e t' := ⟨fun p pins s σ H Q I w => h.run p pins s σ H Q I (i _ _ _ w)⟩

variable {T : Tbl} {c : Nat → List Vx → Hs → VK2 → Prop} {cx : Cls2} (hc : CalMono c)
include hc
/-! ### names, constants -/
theorem snd_v {i : Nat} {x : Str} {pos : Pos} (hN : X.N[i]? = some x) (hv : Vis X.env.scope x) (h1 : (x == ("__debug__" : Str)) = false) (h2 : (x == ("__classdict__" : Str)) = false) : PE X (.Name x pos) (liftE X.K cx (wpE T c (.v i))) :=
  peImp (pe_var hN hv h1 h2) fun σ H Q ⟨S, σ2, hr, rs, x, e, y, e', q⟩ => by
    cases e'
    obtain ⟨v, h1, h2⟩ := rs.2 i x e
    exact ⟨v, h1, fin q hr h2.bor (bor_own x)⟩
theorem snd_i {i : Int} {k : Nat} {pos : Pos} : PE X (.Constant (.int i) k pos) (liftE X.K cx (wpE T c (.i i))) := peImp pe_int fun σ H Q ⟨S, σ2, hr, rs, y, e', q⟩ => by cases e'; exact fin_d q hr rfl
theorem snd_b {b : Bool} {k : Nat} {pos : Pos} : PE X (.Constant (.bool b) k pos) (liftE X.K cx (wpE T c (.b b))) := peImp pe_bl fun σ H Q ⟨S, σ2, hr, rs, y, e', q⟩ => by cases e'; exact fin_d q hr rfl
theorem snd_n {k : Nat} {pos : Pos} : PE X (.Constant .none k pos) (liftE X.K cx (wpE T c .n)) := peImp pe_non fun σ H Q ⟨S, σ2, hr, rs, y, e', q⟩ => by cases e'; exact fin_d q hr rfl
theorem snd_s {s : List Nat} {x : Str} (hs : x = sv s) {k : Nat} {pos : Pos} : PE X (.Constant (.str x) k pos) (liftE X.K cx (wpE T c (.s s))) := peImp pe_str fun σ H Q ⟨S, σ2, hr, rs, y, e', q⟩ => by subst hs; cases e'; exact fin_d q hr rfl
/-! ### operators -/
theorem lift_bin {f : Vx → Vx → Hs → VK2 → Prop} (hf : ∀ x y S Q Q', (∀ z S, Q z S → Q' z S) → f x y S Q → f x y S Q') {a b : R} {σ : L2.St} {H : Hp} {Q : VK} {S : Hs} {σ2 : Sl} (hr : Rel X.K cx S H) (rs : RelX X.K S H σ2 σ)
    (w : wpE T c a σ2 S (one1 fun x S1 => wpE T c b σ2 S1 (one1 fun y S2 => f x y S2 fun z S3 => kE X.K cx S H Q [z] S3))) : tOp (r2of X.K cx f) (liftE X.K cx (wpE T c a)) (liftE X.K cx (wpE T c b)) σ H Q :=
  stepE hc hr rs w fun x S1 v H1 hr1 k1 rs1 r1 w => stepE hc hr1 rs1 w fun y S2 u H2 hr2 k2 rs2 r2 w =>
    ⟨S2, x, y, hr2, r1.1.keep k2 hr1, r2.1, hf _ _ _ _ _ (fun z S3 ⟨z', e, q⟩ => by cases e; exact KVof.of (k1.trans k2) q) w⟩
theorem snd_bin {op : Operator} {o : O2} (ho : OpR X (binaryOp op) (r2of X.K cx (op2D o))) {a b : R} {ea eb : Expr} {pos : Pos} (ha : PE X ea (liftE X.K cx (wpE T c a))) (hb : PE X eb (liftE X.K cx (wpE T c b))) :
    PE X (.BinOp ea op eb pos) (liftE X.K cx (wpE T c (.o2 o a b))) := peImp (pe_op ho ha hb) fun σ H Q ⟨S, σ2, hr, rs, w⟩ => lift_bin hc (f := op2D _) (fun _ _ _ _ _ h => op2D_mono h) hr rs w
theorem snd_cmp {op : CmpOp} {o : O2} (ho : OpR X (compareOp op) (r2of X.K cx (op2D o))) {a b : R} {ea eb : Expr} {pos : Pos} (hm : behindInMarks op eb = false) (ha : PE X ea (liftE X.K cx (wpE T c a))) (hb : PE X eb (liftE X.K cx (wpE T c b))) :
    PE X (.Compare ea [op] [eb] pos) (liftE X.K cx (wpE T c (.o2 o a b))) := peImp (pe_cmpR ho ha hb hm) fun σ H Q ⟨S, σ2, hr, rs, w⟩ => lift_bin hc (f := op2D _) (fun _ _ _ _ _ h => op2D_mono h) hr rs w
theorem snd_ix (ho : IxR X (r2of X.K cx (op2D .idx))) {a b : R} {ea eb : Expr} {pos : Pos} (hp : PlainIx eb) (ha : PE X ea (liftE X.K cx (wpE T c a))) (hb : PE X eb (liftE X.K cx (wpE T c b))) :
    PE X (.Subscript ea eb pos) (liftE X.K cx (wpE T c (.o2 .idx a b))) := peImp (pe_ix ho ha hb hp) fun σ H Q ⟨S, σ2, hr, rs, w⟩ => lift_bin hc (f := op2D _) (fun _ _ _ _ _ h => op2D_mono h) hr rs w
theorem snd_neg {a : R} {ea : Expr} {pos : Pos} (ha : PE X ea (liftE X.K cx (wpE T c a))) : PE X (.UnaryOp .USub ea pos) (liftE X.K cx (wpE T c (.o1 .neg a))) :=
  peImp (pe_un (op1_neg (cx := cx)) ha) fun σ H Q ⟨S, σ2, hr, rs, w⟩ => stepE hc hr rs w fun x S1 v H1 hr1 k1 rs1 r1 w =>
    ⟨S1, x, hr1, r1.1, op1D_mono (fun z S3 ⟨z', e, q⟩ => by cases e; exact KVof.of k1 q) w⟩
/-! ### truths -/
theorem kE_bl {S S1 : Hs} {H : Hp} {Q : VK} {b : Bool} (q : kE X.K cx S H Q [.d (.bl b)] S1) {H1 : Hp} (k : Keep S S1 H H1) (hr1 : Rel X.K cx S1 H1) : Q (.bl b) H1 := by
  obtain ⟨x, e, q⟩ := q
  cases e
  exact fin_bl (KVof.of k q) hr1
theorem kE_of {S S1 : Hs} {H : Hp} {Q : VK} {xs : List Vx} {S' : Hs} (q : kE X.K cx S H Q xs S') {H1 : Hp} (k : Keep S S1 H H1) : kE X.K cx S1 H1 Q xs S' := let ⟨x, e, q⟩ := q; ⟨x, e, KVof.of k q⟩
theorem snd_not {a : R} {ea : Expr} {pos : Pos} (ha : PE X ea (liftE X.K cx (wpE T c a))) : PE X (.UnaryOp .Not ea pos) (liftE X.K cx (wpE T c (.not a))) :=
  peImp (pe_not ha) fun σ H Q ⟨S, σ2, hr, rs, w⟩ => stepE hc hr rs w fun x S1 v H1 hr1 k1 rs1 r1 w => by
    obtain ⟨b, rfl, w⟩ := tstK_of w
    cases r1.1
    exact ⟨b, rfl, kE_bl hc w k1 hr1⟩
theorem snd_one {op : BoolOp} {a : R} {ea : Expr} {pos : Pos} (ha : PE X ea (liftE X.K cx (wpE T c a))) : PE X (.BoolOp op [ea] pos) (liftE X.K cx (wpE T c (.one a))) :=
  peImp (pe_one ha) fun σ H Q ⟨S, σ2, hr, rs, w⟩ => stepE hc hr rs w fun x S1 v H1 hr1 k1 rs1 r1 w => by
    obtain ⟨b, rfl, w⟩ := tstK_of w
    cases r1.1
    exact kE_bl hc w k1 hr1
theorem snd_and {a r : R} {ea eb : Expr} {er : List Expr} {pos : Pos} (ha : PE X ea (liftE X.K cx (wpE T c a))) (hb : PE X (.BoolOp .And (eb :: er) pos) (liftE X.K cx (wpE T c r))) :
    PE X (.BoolOp .And (ea :: eb :: er) pos) (liftE X.K cx (wpE T c (.and a r))) :=
  peImp (pe_and ha hb) fun σ H Q ⟨S, σ2, hr, rs, w⟩ => stepE hc hr rs w fun x S1 v H1 hr1 k1 rs1 r1 w => by
    obtain ⟨b, rfl, w⟩ := tstK_of w
    cases r1.1
    refine ⟨b, rfl, ?_⟩
    cases b with
    | true => exact iteT ⟨S1, σ2, hr1, rs1, wpE_mono hc (w.t rfl) fun xs S' q => kE_of hc q k1⟩
    | false => exact iteF (kE_bl hc (w.f rfl) k1 hr1)
theorem snd_or {a r : R} {ea eb : Expr} {er : List Expr} {pos : Pos} (ha : PE X ea (liftE X.K cx (wpE T c a))) (hb : PE X (.BoolOp .Or (eb :: er) pos) (liftE X.K cx (wpE T c r))) :
    PE X (.BoolOp .Or (ea :: eb :: er) pos) (liftE X.K cx (wpE T c (.or a r))) :=
  peImp (pe_or ha hb) fun σ H Q ⟨S, σ2, hr, rs, w⟩ => stepE hc hr rs w fun x S1 v H1 hr1 k1 rs1 r1 w => by
    obtain ⟨b, rfl, w⟩ := tstK_of w
    cases r1.1
    refine ⟨b, rfl, ?_⟩
    cases b with
    | true => exact iteT (kE_bl hc (w.t rfl) k1 hr1)
    | false => exact iteF ⟨S1, σ2, hr1, rs1, wpE_mono hc (w.f rfl) fun xs S' q => kE_of hc q k1⟩
theorem snd_ife {k a b : R} {ek ea eb : Expr} {pos : Pos} (hk : PT X ek (liftT X.K cx (wpE T c k))) (ha : PE X ea (liftE X.K cx (wpE T c a))) (hb : PE X eb (liftE X.K cx (wpE T c b))) :
    PE X (.IfExp ek ea eb pos) (liftE X.K cx (wpE T c (.ife k a b))) :=
  peImp (pe_ifExp hk ha hb) fun σ H Q ⟨S, σ2, hr, rs, w⟩ => stepT hc hr rs w fun b S1 H1 hr1 k1 rs1 w => by
    cases b with
    | true => exact iteT ⟨S1, σ2, hr1, rs1, wpE_mono hc (w.t rfl) fun xs S' q => by obtain ⟨x, rfl, q⟩ := one1_of q; exact kE_of hc q k1⟩
    | false => exact iteF ⟨S1, σ2, hr1, rs1, wpE_mono hc (w.f rfl) fun xs S' q => by obtain ⟨x, rfl, q⟩ := one1_of q; exact kE_of hc q k1⟩
theorem snd_chain {o o' : O2} {op op' : CmpOp} (ho : OpR X (compareOp op) (r2of X.K cx (op2D o))) (ho' : OpR X (compareOp op') (r2of X.K cx (op2D o'))) {a b k : R} {ea eb ek : Expr} {pos : Pos}
    (ha : PE X ea (liftE X.K cx (wpE T c a))) (hb : PE X eb (liftE X.K cx (wpE T c b))) (hk : PE X ek (liftE X.K cx (wpE T c k))) (h1 : behindInMarks op eb = false) (h2 : behindInMarks op' ek = false) :
    (PE X (.Compare ea [op, op'] [eb, ek] pos) (liftE X.K cx (wpE T c (.chain o o' a b k)))) ∧ PT X (.Compare ea [op, op'] [eb, ek] pos) (liftT X.K cx (wpE T c (.chain o o' a b k))) := by
  have hm : lastMarks [op, op'] [eb, ek] = false := by
    first
      | exact h2
      | (simp only [lastMarks]; exact h2)
      | (unfold lastMarks; simp [h1, h2])
  have key : ∀ {σ : L2.St} {H : Hp} {Q : Bool → Hp → Prop} {S : Hs} {σ2 : Sl} {P : LK2}, Rel X.K cx S H → RelX X.K S H σ2 σ → wpE T c (.chain o o' a b k) σ2 S P → (∀ bb S' H', P [.d (.bl bb)] S' → Rel X.K cx S' H' → Keep S S' H H' → Q bb H') →
      tChain (r2of X.K cx (op2D o)) (r2of X.K cx (op2D o')) (liftE X.K cx (wpE T c a)) (liftE X.K cx (wpE T c b)) (liftE X.K cx (wpE T c k)) σ H (fun z H' => ∃ bb, z = .bl bb ∧ Q bb H') := fun {σ H Q S σ2 P} hr rs w fin =>
    stepE hc hr rs w fun x S1 v H1 hr1 k1 rs1 r1 w => stepE hc hr1 rs1 w fun y S2 u H2 hr2 k2 rs2 r2 w =>
      ⟨S2, x, y, hr2, r1.1.keep k2 hr1, r2.1, op2D_mono (fun z S3 q => by
        obtain ⟨bb, rfl, q⟩ := tstK_of q
        intro z H3 hr3 k3 r3
        cases r3.1
        refine ⟨bb, rfl, ?_⟩
        have rs3 := rs2.keep k3 hr2
        have ry3 := r2.1.keep k3 hr2
        cases bb with
        | true =>
          refine iteT (stepE hc hr3 rs3 (q.t rfl) fun z S4 zv H4 hr4 k4 rs4 r4 w => ⟨S4, y, z, hr4, ry3.keep k4 hr3, r4.1, op2D_mono (fun z' S5 q => ?_) w⟩)
          obtain ⟨b2, rfl, q⟩ := tstK_of q
          intro z' H5 hr5 k5 r5
          cases r5.1
          exact ⟨b2, rfl, fin _ _ _ q hr5 ((((k1.trans k2).trans k3).trans k4).trans k5)⟩
        | false => exact iteF ⟨false, rfl, fin _ _ _ (q.f rfl) hr3 ((k1.trans k2).trans k3)⟩) w⟩
  refine ⟨⟨fun pins s σ H Q I ⟨S, σ2, hr, rs, w⟩ => ?_⟩, ptImp (pt_chain ho ho' ha hb hk hm) fun σ H Q ⟨S, σ2, hr, rs, w⟩ => ?_⟩
  · have h := key (Q := fun bb H' => Q (.bl bb) H') hr rs w fun bb S' H' q hr' k => by
      obtain ⟨x, e, q⟩ := q
      cases e
      exact q _ _ hr' k ⟨rfl, fun e => by cases e⟩
    exact thn ((pe_chain ho ho' ha hb hk hm).run pins s σ H _ I h) fun u s' ⟨v, H', I', rv, bb, e, q⟩ => ⟨v, H', I', rv, by subst e; exact q⟩
  · exact key (Q := Q) hr rs w fun bb S' H' q hr' k => q H' hr' k
/-! ### arguments -/
theorem snd_nil : PA X [] (liftA X.K cx (wpE T c .nil)) := paImp pa_nil fun σ H Q ⟨S, σ2, hr, rs, w⟩ => w [] H hr .refl .nil
theorem snd_cons {a r : R} {e : Expr} {es : List Expr} (ha : PE X e (liftE X.K cx (wpE T c a))) (hb : PA X es (liftA X.K cx (wpE T c r))) (hs : starEach (e :: es) X.env = (false, eval e X.env) :: starEach es X.env) :
    PA X (e :: es) (liftA X.K cx (wpE T c (.cons a r))) :=
  paImp (pa_cons ha hb hs) fun σ H Q ⟨S, σ2, hr, rs, w⟩ => stepE hc hr rs w fun x S1 v H1 hr1 k1 rs1 r1 w => stepA hc hr1 rs1 w fun xs S2 vs H2 hr2 k2 rs2 r2 w =>
    w (v :: vs) H2 hr2 (k1.trans k2) (.cons (r1.1.bor.keep k2 hr1) r2)
theorem rel_box {K : Frag} {S S1 : Hs} {H H1 : Hp} {x : Vx} {v : V} {P : D → Hs → Prop} (hr1 : Rel K cx S1 H1) (k1 : Keep S S1 H H1) (r : RepR K H H1 S1 x v) (w : bx x S1 P) :
    ∃ d S2, P d S2 ∧ Rel K cx S2 H1 ∧ Keep S S2 H H1 ∧ RepV K H1 d v ∧ (S2 = S1 ∨ ∃ a o, v = .ref a ∧ S1 a = none ∧ H a = none ∧ S2 = su S1 a o) := by
  cases x with
  | d y => exact ⟨y, S1, w, hr1, k1, r.1, .inl rfl⟩
  | vl ds =>
    obtain ⟨⟨a, vs, rfl, h, n, r1⟩, f⟩ := r
    obtain ⟨a', e, n'⟩ := f rfl
    cases e
    refine ⟨.ref a, su S1 a (.lst ds), w a n, hr1.box ⟨vs, h, r1⟩, ⟨fun b o e z => ?_, k1.up⟩, rfl, .inr ⟨a, _, rfl, n, n', rfl⟩⟩
    obtain ⟨h1, h2⟩ := k1.kp b o e z
    refine ⟨h1, ?_⟩
    rw [su_ne (ne_of_none e n')]
    exact h2
  | vd ds =>
    obtain ⟨⟨a, vs, rfl, h, n, r1⟩, f⟩ := r
    obtain ⟨a', e, n'⟩ := f rfl
    cases e
    refine ⟨.ref a, su S1 a (.dic ds), w a n, hr1.box ⟨vs, h, r1⟩, ⟨fun b o e z => ?_, k1.up⟩, rfl, .inr ⟨a, _, rfl, n, n', rfl⟩⟩
    obtain ⟨h1, h2⟩ := k1.kp b o e z
    refine ⟨h1, ?_⟩
    rw [su_ne (ne_of_none e n')]
    exact h2
  | bw _ => exact w.elim
  | fz _ => exact w.elim
  | bd _ => exact w.elim
  | st _ => exact w.elim
theorem snd_consb {a r : R} {e : Expr} {es : List Expr} (ha : PE X e (liftE X.K cx (wpE T c a))) (hb : PA X es (liftA X.K cx (wpE T c r))) (hs : starEach (e :: es) X.env = (false, eval e X.env) :: starEach es X.env) :
    PA X (e :: es) (liftA X.K cx (wpE T c (.consb a r))) :=
  paImp (pa_cons ha hb hs) fun σ H Q ⟨S, σ2, hr, rs, w⟩ => stepE hc hr rs w fun x S1 v H1 hr1 k1 rs1 r1 w => by
    obtain ⟨d, S2, w, hr2, k2, r2, _⟩ := rel_box hc hr1 k1 r1 w
    refine stepA hc hr2 (rs.keep k2 hr) w fun xs S3 vs H3 hr3 k3 rs3 r3 w => ?_
    exact w (v :: vs) H3 hr3 (k2.trans k3) (.cons (RepV.keep (k3.tups hr2) _ _ r2) r3)
theorem map_d {K : Frag} {S : Hs} {H : Hp} : ∀ {ds : List D} {vs : List V}, Paired (RepX K H S) (ds.map Vx.d) vs → RepL K H ds vs
  | [], _, .nil => rfl
  | d :: ds, _, .cons r t => ⟨_, _, rfl, r, map_d t⟩
theorem snd_tup {as : R} {es : List Expr} {x1 : Nat} {pos : Pos} (h : PA X es (liftA X.K cx (wpE T c as))) : PE X (.Tuple es x1 pos) (liftE X.K cx (wpE T c (.tup as))) :=
  peImp (pe_tup h) fun σ H Q ⟨S, σ2, hr, rs, w⟩ => stepA hc hr rs w fun xs S1 vs H1 hr1 k1 rs1 r1 ⟨ds, e, hz, w⟩ => by
    have e := unD_map e
    subst e
    have r := map_d hc r1
    obtain ⟨x, e, q⟩ := w
    cases e
    exact ⟨by rw [← r.length]; exact hz, fin_tup (KVof.of k1 q) hr1 r⟩
theorem snd_lst {as : R} {es : List Expr} {pos : Pos} (h : PA X es (liftA X.K cx (wpE T c as))) : PE X (.List es pos) (liftE X.K cx (wpE T c (.lst as))) :=
  peImp (pe_lst h) fun σ H Q ⟨S, σ2, hr, rs, w⟩ => stepA hc hr rs w fun xs S1 vs H1 hr1 k1 rs1 r1 ⟨ds, e, hz, w⟩ => by
    have e := unD_map e
    subst e
    have r := map_d hc r1
    obtain ⟨x, e, q⟩ := w
    cases e
    exact ⟨by rw [← r.length]; exact hz, fin_vl (KVof.of k1 q) hr1 r⟩
theorem snd_dct {pos : Pos} : PE X (.Dict [] [] pos) (liftE X.K cx (wpE T c .dct)) :=
  peImp pe_dnewK fun σ H Q ⟨S, σ2, hr, rs, w⟩ => fun p n => by
    obtain ⟨x, e, q⟩ := w
    cases e
    exact q _ _ (hr.upd0 (hr.free n) (tupS_new n)) (.new n) ⟨⟨p, [], rfl, upd_same, hr.free n, .nil⟩, fun _ => ⟨p, rfl, n⟩⟩
/-! ### calls of built-ins -/
theorem snd_call1 {o : O1} {a : R} {ea : Expr} {e : Expr} (hp : ∀ t : TA, PA X [ea] t → PE X e (tCB (c1of X.K cx o) t))
    (hs : starEach [ea] X.env = [(false, eval ea X.env)]) (ha : PE X ea (liftE X.K cx (wpE T c a))) : PE X e (liftE X.K cx (wpE T c (.o1 o a))) :=
  peImp (hp _ (pa_cons ha pa_nil hs)) fun σ H Q ⟨S, σ2, hr, rs, w⟩ => stepE hc hr rs w fun x S1 v H1 hr1 k1 rs1 r1 w =>
    ⟨v, rfl, S1, x, hr1, r1.1, op1D_mono (fun z S3 ⟨z', e, q⟩ => by cases e; exact KVof.of k1 q) w⟩
theorem snd_call2 {o : O2} {a b : R} {ea eb : Expr} {e : Expr} (hp : ∀ t : TA, PA X [ea, eb] t → PE X e (tCB (c2of X.K cx o) t))
    (hs : starEach [ea, eb] X.env = (false, eval ea X.env) :: starEach [eb] X.env) (hs2 : starEach [eb] X.env = [(false, eval eb X.env)]) (ha : PE X ea (liftE X.K cx (wpE T c a))) (hb : PE X eb (liftE X.K cx (wpE T c b))) : PE X e (liftE X.K cx (wpE T c (.o2 o a b))) :=
  peImp (hp _ (pa_cons ha (pa_cons hb pa_nil hs2) hs)) fun σ H Q ⟨S, σ2, hr, rs, w⟩ => stepE hc hr rs w fun x S1 v H1 hr1 k1 rs1 r1 w => stepE hc hr1 rs1 w fun y S2 u H2 hr2 k2 rs2 r2 w =>
    ⟨v, u, rfl, S2, x, y, hr2, r1.1.keep k2 hr1, r2.1, op2D_mono (fun z S3 ⟨z', e, q⟩ => by cases e; exact KVof.of (k1.trans k2) q) w⟩
theorem snd_isi {t : Ty} {a : R} {ea et : Expr} {e : Expr} (hp : ∀ t' : TA, PA X [ea, et] t' → PE X e (tCB (fun vs H Q => ∃ v, vs = [v, .ty t.nm] ∧ r1of X.K cx (op1D (.isi t)) v H Q) t'))
    (hs : starEach [ea, et] X.env = (false, eval ea X.env) :: starEach [et] X.env) (hs2 : starEach [et] X.env = [(false, eval et X.env)]) (ha : PE X ea (liftE X.K cx (wpE T c a))) (hb : PE X et (tC (.ty t.nm))) : PE X e (liftE X.K cx (wpE T c (.o1 (.isi t) a))) :=
  peImp (hp _ (pa_cons ha (pa_cons hb pa_nil hs2) hs)) fun σ H Q ⟨S, σ2, hr, rs, w⟩ => stepE hc hr rs w fun x S1 v H1 hr1 k1 rs1 r1 w =>
    ⟨v, rfl, S1, x, hr1, r1.1, op1D_mono (fun z S3 ⟨z', e, q⟩ => by cases e; exact KVof.of k1 q) w⟩
end
end DL

/-! DL7: tests, calls, fields, mutators, slices are sound. -/
namespace DL
open PySem L2 PySem.Spec PyProof.Rows
section
variable {X : Cx} {T : Tbl} {c : Nat → List Vx → Hs → VK2 → Prop} {cx : Cls2} (hc : CalMono c)
include hc
/-! ### tests -/
theorem kT_bl {K : Frag} {S S' S1 : Hs} {H : Hp} {Q : Bool → Hp → Prop} {b : Bool} (q : kT K cx S H Q [.d (.bl b)] S') {H1 : Hp} (k : Keep S S' H H1) (hr1 : Rel K cx S' H1) : Q b H1 := q H1 hr1 k
theorem kT_of {K : Frag} {S S1 S' : Hs} {H H1 : Hp} {Q : Bool → Hp → Prop} {xs : List Vx} (q : kT K cx S H Q xs S') (k : Keep S S1 H H1) : kT K cx S1 H1 Q xs S' :=
  one1_mono (fun x S => tstK_mono fun b S q H' hr' k' => q H' hr' (k.trans k')) q
theorem kT_elim {K : Frag} {S S' : Hs} {H : Hp} {Q : Bool → Hp → Prop} {xs : List Vx} (q : kT K cx S H Q xs S') : ∃ b, xs = [.d (.bl b)] ∧ ∀ H', Rel K cx S' H' → Keep S S' H H' → Q b H' := by
  obtain ⟨x, e, q⟩ := one1_of q
  obtain ⟨b, e', q⟩ := tstK_of q
  subst e e'
  exact ⟨b, rfl, q⟩
theorem tst_val {r : R} {e : Expr} (h : PE X e (liftE X.K cx (wpE T c r))) (he : ∀ whole, isTrue e X.env whole = (do let v ← whole; standAt e.pos; holding [v] (truthy v))) : PT X e (liftT X.K cx (wpE T c r)) :=
  ptImp (pt_val h he) fun σ H Q ⟨S, σ2, hr, rs, w⟩ => ⟨S, σ2, hr, rs, wpE_mono hc w fun xs S1 q => by
    obtain ⟨b, rfl, q⟩ := kT_elim hc q
    refine ⟨_, rfl, fun v H' hr' k r => ?_⟩
    cases r.1
    exact ⟨b, rfl, q H' hr' k⟩⟩
theorem tst_cmp {op : CmpOp} {o : O2} (ho : OpR X (compareOp op) (r2of X.K cx (op2D o))) {a b : R} {ea eb : Expr} {pos : Pos} (hm : behindInMarks op eb = false) (ha : PE X ea (liftE X.K cx (wpE T c a))) (hb : PE X eb (liftE X.K cx (wpE T c b))) :
    PT X (.Compare ea [op] [eb] pos) (liftT X.K cx (wpE T c (.o2 o a b))) := ptImp (pt_cmpR ho ha hb hm) fun σ H Q ⟨S, σ2, hr, rs, w⟩ =>
  stepE hc hr rs w fun x S1 v H1 hr1 k1 rs1 r1 w => stepE hc hr1 rs1 w fun y S2 u H2 hr2 k2 rs2 r2 w =>
    ⟨S2, x, y, hr2, r1.1.keep k2 hr1, r2.1, op2D_mono (fun z S3 q => by
      obtain ⟨b, e, q⟩ := kT_elim hc q
      cases e
      intro v H' hr' k r
      cases r.1
      exact ⟨b, rfl, q H' hr' ((k1.trans k2).trans k)⟩) w⟩
theorem tst_not {a : R} {ea : Expr} {pos : Pos} (ha : PT X ea (liftT X.K cx (wpE T c a))) : PT X (.UnaryOp .Not ea pos) (liftT X.K cx (wpE T c (.not a))) :=
  ptImp (pt_not ha) fun σ H Q ⟨S, σ2, hr, rs, w⟩ => stepT hc hr rs w fun b S1 H1 hr1 k1 rs1 w => w H1 hr1 k1
theorem tst_one {op : BoolOp} {a : R} {ea : Expr} {pos : Pos} (ha : PT X ea (liftT X.K cx (wpE T c a))) : PW X (.BoolOp op [ea] pos) (liftT X.K cx (wpE T c (.one a))) := by
  have i : ∀ σ H Q, liftT X.K cx (wpE T c (.one a)) σ H Q → liftT X.K cx (wpE T c a) σ H Q := fun σ H Q ⟨S, σ2, hr, rs, w⟩ => stepT hc hr rs w fun b S1 H1 hr1 k1 rs1 w => w H1 hr1 k1
  cases op with
  | And => exact pwImp (pw_and1 ha) i
  | Or => exact pwImp (pw_or1 ha) i
theorem tst_and {a r : R} {ea eb : Expr} {er : List Expr} {pos : Pos} (ha : PT X ea (liftT X.K cx (wpE T c a))) (hb : PW X (.BoolOp .And (eb :: er) pos) (liftT X.K cx (wpE T c r))) :
    PW X (.BoolOp .And (ea :: eb :: er) pos) (liftT X.K cx (wpE T c (.and a r))) :=
  pwImp (pw_and ha hb) fun σ H Q ⟨S, σ2, hr, rs, w⟩ => stepT hc hr rs w fun b S1 H1 hr1 k1 rs1 w => by
    cases b with
    | true => exact iteT ⟨S1, σ2, hr1, rs1, wpE_mono hc (w.t rfl) fun xs S' q => kT_of hc q k1⟩
    | false => exact iteF (w.f rfl H1 hr1 k1)
theorem tst_or {a r : R} {ea eb : Expr} {er : List Expr} {pos : Pos} (ha : PT X ea (liftT X.K cx (wpE T c a))) (hb : PW X (.BoolOp .Or (eb :: er) pos) (liftT X.K cx (wpE T c r))) :
    PW X (.BoolOp .Or (ea :: eb :: er) pos) (liftT X.K cx (wpE T c (.or a r))) :=
  pwImp (pw_or ha hb) fun σ H Q ⟨S, σ2, hr, rs, w⟩ => stepT hc hr rs w fun b S1 H1 hr1 k1 rs1 w => by
    cases b with
    | true => exact iteT (w.t rfl H1 hr1 k1)
    | false => exact iteF ⟨S1, σ2, hr1, rs1, wpE_mono hc (w.f rfl) fun xs S' q => kT_of hc q k1⟩
/-! ### slices -/
/-- a slice's part as it is written -/
def PartOk (X : Cx) (T : Tbl) (c : Nat → List Vx → Hs → VK2 → Prop) (cx : Cls2) (a : R) (e : Option Expr) : Prop :=
  PO X e (fun σ H Q => ∃ S σ2, Rel X.K cx S H ∧ RelX X.K S H σ2 σ ∧ wpE T c a σ2 S (one1 fun l S' => ∃ l', optI a l = some l' ∧ ∀ H', Rel X.K cx S' H' → Keep S S' H H' → Q l' H'))
theorem part_n : PartOk X T c cx .n none := ⟨fun pins s σ H Q I ⟨S, σ2, hr, rs, l', e, w⟩ => (po_none (X := X)).run pins s σ H Q I (by cases e; exact w H hr .refl)⟩
theorem part_e {a : R} {ea : Expr} (hn : a ≠ .n) (ha : PE X ea (liftE X.K cx (wpE T c a))) : PartOk X T c cx a (some ea) :=
  ⟨fun pins s σ H Q I ⟨S, σ2, hr, rs, w⟩ => (po_some ha).run pins s σ H Q I (stepE hc hr rs w fun x S1 v H1 hr1 k1 rs1 r1 ⟨l', e, w⟩ => by
    unfold optI at e
    split at e
    · exact (hn rfl).elim
    · cases e
      cases r1.1
      exact ⟨_, rfl, w H1 hr1 k1⟩
    · cases e)⟩
theorem snd_slc {a lo hi : R} {ea : Expr} {el eh : Option Expr} {p2 pos : Pos} (ha : PE X ea (liftE X.K cx (wpE T c a))) (hl : PartOk X T c cx lo el) (hh : PartOk X T c cx hi eh) :
    PE X (.Subscript ea (.Slice el eh none p2) pos) (liftE X.K cx (wpE T c (.slc a lo hi))) :=
  peImp (pe_slice (slc_ok (cx := cx)) ha hl hh) fun σ H Q ⟨S, σ2, hr, rs, w⟩ => stepE hc hr rs w fun x S1 v H1 hr1 k1 rs1 r1 w => by
    refine ⟨S1, σ2, hr1, rs1, wpE_mono hc w fun ls S2 w => one1_mono (fun l S2 ⟨l', e, w⟩ => ⟨l', e, fun H2 hr2 k2 => ?_⟩) w⟩
    refine ⟨S2, σ2, hr2, rs1.keep k2 hr1, wpE_mono hc w fun us S3 w => one1_mono (fun u S3 ⟨u', e, w⟩ => ⟨u', e, fun H3 hr3 k3 => ?_⟩) w⟩
    exact ⟨S3, x, hr3, (r1.1.keep k2 hr1).keep k3 hr2, view_mono (fun c => slcC_mono fun z S4 ⟨z', e, q⟩ => by cases e; exact KVof.of ((k1.trans k2).trans k3) q) w⟩
/-! ### fields -/
theorem lookup_fld {ns : List Str} {fv : List (Str × V)} {k : Nat} {f : Str} {K : Frag} {H : Hp} {fs : List D} {d : D} (nd : ns.Nodup) (hm : fv.map Prod.fst = ns.take fs.length) (hf : ns[k]? = some f) (r : RepL K H fs (fv.map Prod.snd)) (e : fs[k]? = some d) :
    ∃ v, fv.lookup f = some v ∧ RepV K H d v := by
  obtain ⟨v, h1, h2⟩ := r.get e
  refine ⟨v, ?_, h2⟩
  have hk : k < fs.length := (List.getElem?_eq_some_iff.mp e).1
  have h3 : (fv.map Prod.fst)[k]? = some f := by rw [hm, List.getElem?_take_of_lt hk]; exact hf
  clear e r hk
  have nd' : (fv.map Prod.fst).Nodup := by rw [hm]; exact nd.sublist (List.take_sublist _ _)
  clear hm hf nd
  induction fv generalizing k with
  | nil => simp at h1
  | cons p r ih =>
    obtain ⟨g, u⟩ := p
    have nd' : (g :: r.map Prod.fst).Nodup := nd'
    cases k with
    | zero =>
      simp at h1 h3
      subst h1 h3
      simp [List.lookup]
    | succ k =>
      have h1 : (r.map Prod.snd)[k]? = some v := by simpa using h1
      have h3 : (r.map Prod.fst)[k]? = some f := by simpa using h3
      have ne : ¬ f = g := fun z => (List.nodup_cons.mp nd').1 (z ▸ List.mem_of_getElem? h3)
      have hb : (f == g) = false := beq_eq_false_iff_ne.mpr ne
      simp only [List.lookup, hb]
      exact ih h1 h3 (List.nodup_cons.mp nd').2
/-- a class of the text: its fields are no attributes of the class, each once -/
structure ClsOk (K : Frag) (cx : Cls2) (i : Nat) : Prop where
  cl : Cls K (cx.adr i)
  nd : (cx.lay i).Nodup
  few : (cx.lay i).length ≤ 50
  no : ∀ f ∈ cx.lay i, NoAttr K (cx.adr i) f
theorem snd_fld {o : R} {k ci : Nat} {f : Str} {eo : Expr} {pos : Pos} (ok : ClsOk X.K cx ci) (hf : (cx.lay ci)[k]? = some f) (ho : PE X eo (liftE X.K cx (wpE T c o))) (hb : attributeBase eo f X.env (eval eo X.env) = eval eo X.env) :
    PE X (.Attribute eo f pos) (liftE X.K cx (wpE T c (.fld o ci k))) :=
  peImp (pe_fld ho hb) fun σ H Q ⟨S, σ2, hr, rs, w⟩ => stepE hc hr rs w fun x S1 v H1 hr1 k1 rs1 r1 w => by
    obtain ⟨a, fs, rfl, e, y, ey, z, ez, q⟩ := w
    cases ez
    cases r1.1
    obtain ⟨dx, fv, h1, h2, h3, h4⟩ := hr1 a _ e
    obtain ⟨u, h5, h6⟩ := lookup_fld hc ok.nd h2 hf h4 ey
    exact ⟨a, _, dx, fv, u, rfl, h1, ok.cl, ok.no f (List.mem_of_getElem? hf), h5, fin_d (KVof.of k1 q) hr1 h6⟩
/-! ### calls -/
/-- the promise of a def at the n-th depth -/
def spOf (K : Frag) (cx : Cls2) (cal : Nat → List Vx → Hs → VK2 → Prop) (f np : Nat) : Sp := fun vs H Q _ => vs.length = np ∧ ∃ S xs, Rel K cx S H ∧ Paired (RepX K H S) xs vs ∧ cal f xs S (KVof K cx S H Q)
section
variable {k f np : Nat} {fa C : Addr} {fd : FuncData} {ps : List Str} {x m : Str} {as o : R} {es : List Expr} {e eo : Expr} {p pos apos : Pos}
theorem spOf_of {K : Frag} {S S1 : Hs} {H H1 : Hp} {Q : VK} {xs : List Vx} {vs : List V} {E : XK} (hr1 : Rel K cx S1 H1) (k1 : Keep S S1 H H1) (r1 : Paired (RepX K H1 S1) xs vs) (hl : vs.length = np) (w : c f xs S1 fun r S2 => kE K cx S H Q [r] S2) : spOf K cx c f np (vs ++ []) H1 Q E := by
  rw [List.append_nil]
  exact ⟨hl, S1, xs, hr1, r1, hc _ _ _ _ _ (fun z S3 ⟨z', e, q⟩ => by cases e; exact KVof.of k1 q) w⟩
/-- the number of arguments, read off the call -/
def NumOk (c : Nat → List Vx → Hs → VK2 → Prop) (f np : Nat) : Prop := ∀ xs S Q, c f xs S Q → xs.length = np
theorem snd_call (F : FnOk X.prog X.w X.K X.mg X.base CX0 k fa fd ps (spOf X.K cx c f np)) (hn : NumOk c f np) (hr : Room k X.A) (hg : Gl X x) (hm : X.mg x = some (.ref fa)) (hk : PySem.W.keepIn X.K (.ref fa) = true) (hb : Binds X.K fd ps [])
    (ha : PA X (e :: es) (liftA X.K cx (wpE T c as))) (hdb : (x == ("__debug__" : Str)) = false) (he : starEach (e :: es) X.env = (false, eval e X.env) :: starEach es X.env) (hpl : (backTo pos (starEach es X.env)).any (·.1) = false) :
    PE X (.Call (.Name x p) (e :: es) [] pos) (liftE X.K cx (wpE T c (.call f as))) :=
  peImp (pe_call F hr hg hm hk hb .nil (pass0 (X := X)) ha hdb he hpl) fun σ H Q ⟨S, σ2, hr, rs, w⟩ => stepA hc hr rs w fun xs S1 vs H1 hr1 k1 rs1 r1 w => spOf_of hc hr1 k1 r1 (by rw [← Paired.length r1]; exact hn _ _ _ w) w
theorem snd_call0 (F : FnOk X.prog X.w X.K X.mg X.base CX0 k fa fd ps (spOf X.K cx c f np)) (hn : NumOk c f np) (hr : Room k X.A) (hg : Gl X x) (hm : X.mg x = some (.ref fa)) (hk : PySem.W.keepIn X.K (.ref fa) = true) (hb : Binds X.K fd ps [])
    (ha : PA X [] (liftA X.K cx (wpE T c as))) (hdb : (x == ("__debug__" : Str)) = false) (has : as = .nil) :
    PE X (.Call (.Name x p) [] [] pos) (liftE X.K cx (wpE T c (.call f as))) :=
  peImp (pe_call0 F hr hg hm hk hb .nil (pass0 (X := X)) hdb) fun σ H Q ⟨S, σ2, hr, rs, w⟩ => by
    subst has
    exact spOf_of (E := E0) (vs := []) hc hr .refl .nil (by have := hn _ _ _ w; simpa using this) w
theorem lookup_none {ns : List Str} {fv : List (Str × V)} {m : Str} {n : Nat} (hm : fv.map Prod.fst = ns.take n) (hno : m ∉ ns) : fv.lookup m = none := by
  have h : m ∉ fv.map Prod.fst := fun z => hno (List.mem_of_mem_take (hm ▸ z))
  clear hm
  induction fv with
  | nil => rfl
  | cons q r ih =>
    obtain ⟨g, u⟩ := q
    have h : m ∉ g :: r.map Prod.fst := h
    have hb : (m == g) = false := beq_eq_false_iff_ne.mpr fun z => h (z ▸ List.mem_cons_self)
    simp only [List.lookup, hb]
    exact ih fun z => h (List.mem_cons_of_mem _ z)
theorem snd_meth {pl : Sem Bool} {ci : Nat} (hci : T.fcls f = ci) (hC : cx.adr ci = C) (hcl : Cls X.K C) (hm : Meth X.K C m fa) (hno : m ∉ cx.lay ci) (F : FnOk X.prog X.w X.K X.mg X.base CX0 k fa fd ps (spOf X.K cx c f np)) (hn : NumOk c f np) (hr : Room k X.A) (hb : Binds X.K fd ps [])
    (ho : PE X eo (liftE X.K cx (wpE T c o))) (ha : PA X (e :: es) (liftA X.K cx (wpE T c as)))
    (hst : starEach (e :: es) X.env = (false, eval e X.env) :: starEach es X.env) (hpl : (backTo pos (starEach es X.env)).any (·.1) = false)
    (ht : eval (.Call (.Attribute eo m apos) (e :: es) [] pos) X.env = (do
      let ov ← eval eo X.env
      standAt apos.atName
      let (f, first) ← holding [ov] (getMethod ov m pl)
      callWith pos f first (backTo pos (starEach (e :: es) X.env)) (backToKw pos (keywordEach [] X.env)))) :
    PE X (.Call (.Attribute eo m apos) (e :: es) [] pos) (liftE X.K cx (wpE T c (.meth f o as))) :=
  peImp (pe_meth ho hcl hm F hr hb .nil (pass0 (X := X)) ha hst hpl ht) fun σ H Q ⟨S, σ2, hr, rs, w⟩ => stepE hc hr rs w fun x S1 v H1 hr1 k1 rs1 r1 w => by
    obtain ⟨a, fs, rfl, e, w⟩ := w
    cases r1.1
    rw [hci] at e
    obtain ⟨dx, fv, h1, h2, h3, h4⟩ := hr1 a _ e
    refine ⟨a, dx, fv, rfl, by rw [← hC]; exact h1, lookup_none hc h2 hno, stepA hc hr1 rs1 w fun xs S2 vs H2 hr2 k2 rs2 r2 w => ?_⟩
    exact spOf_of hc hr2 (k1.trans k2) (.cons (r1.1.keep k2 hr1) r2) (by have := hn _ _ _ w; simpa [Paired.length r2] using this) w
theorem snd_meth0 {pl : Sem Bool} {ci : Nat} (hci : T.fcls f = ci) (hC : cx.adr ci = C) (hcl : Cls X.K C) (hm : Meth X.K C m fa) (hno : m ∉ cx.lay ci) (F : FnOk X.prog X.w X.K X.mg X.base CX0 k fa fd ps (spOf X.K cx c f np)) (hn : NumOk c f np) (hr : Room k X.A) (hb : Binds X.K fd ps [])
    (ho : PE X eo (liftE X.K cx (wpE T c o)))
    (ht : eval (.Call (.Attribute eo m apos) [] [] pos) X.env = (do
      let ov ← eval eo X.env
      standAt apos.atName
      let (f, first) ← holding [ov] (getMethod ov m pl)
      callWith pos f first (backTo pos (starEach [] X.env)) (backToKw pos (keywordEach [] X.env)))) :
    PE X (.Call (.Attribute eo m apos) [] [] pos) (liftE X.K cx (wpE T c (.meth f o .nil))) :=
  peImp (pe_meth0 ho hcl hm F hr hb .nil (pass0 (X := X)) ht) fun σ H Q ⟨S, σ2, hr, rs, w⟩ => stepE hc hr rs w fun x S1 v H1 hr1 k1 rs1 r1 w => by
    obtain ⟨a, fs, rfl, e, w⟩ := w
    cases r1.1
    rw [hci] at e
    obtain ⟨dx, fv, h1, h2, h3, h4⟩ := hr1 a _ e
    refine ⟨a, dx, fv, rfl, by rw [← hC]; exact h1, lookup_none hc h2 hno, ?_⟩
    exact spOf_of (E := E0) (vs := [.ref a]) hc hr1 k1 (.cons r1.1 .nil) (by have := hn _ _ _ w; simpa using this) w
theorem rel_made {K : Frag} {S S1 : Hs} {H H1 : Hp} {ci : Nat} {a dx : Addr} (hr1 : Rel K cx S1 H1) (k1 : Keep S S1 H H1) (n : H1 a = none) (nd : H1 dx = none) (ne : dx ≠ a) :
    Rel K cx (su S1 a (.ins ci [])) (upd (upd H1 dx (.own a)) a (.ins (cx.adr ci) dx [])) ∧ Keep S (su S1 a (.ins ci [])) H (upd (upd H1 dx (.own a)) a (.ins (cx.adr ci) dx [])) ∧ Keep S1 S1 H1 (upd (upd H1 dx (.own a)) a (.ins (cx.adr ci) dx [])) := by
  have n2 : upd H1 dx (.own a) a = none := by rw [upd_ne (Ne.symm ne)]; exact n
  have r1 : Rel K cx S1 (upd H1 dx (.own a)) := hr1.upd0 (hr1.free nd) (tupS_new nd)
  have k2 : Keep S1 S1 H1 (upd (upd H1 dx (.own a)) a (.ins (cx.adr ci) dx [])) := (Keep.new nd).trans (Keep.new n2)
  refine ⟨r1.upd1 (tupS_new n2) ⟨dx, [], upd_same, by simp, Nat.zero_le _, rfl⟩, ⟨fun b o e z => ?_, (k1.trans k2).up⟩, k2⟩
  obtain ⟨h1, h2⟩ := k1.kp b o e z
  refine ⟨(k2.kp b o h1 h2).1, ?_⟩
  rw [su_ne (ne_of_none h1 n)]
  exact h2
theorem snd_make {ci : Nat} (hini : T.cini ci = f) (hC : cx.adr ci = C) (M : Mk X.K C fa) (F : FnOk X.prog X.w X.K X.mg X.base CX0 k fa fd ps (spOf X.K cx c f np)) (hn : NumOk c f np) (hr : Room (k + 1) X.A) (hg : Gl X x) (hm : X.mg x = some (.ref C)) (hb : Binds X.K fd ps [])
    (ha : PA X (e :: es) (liftA X.K cx (wpE T c as))) (hdb : (x == ("__debug__" : Str)) = false) (he : starEach (e :: es) X.env = (false, eval e X.env) :: starEach es X.env) (hpl : (backTo pos (starEach es X.env)).any (·.1) = false) :
    PE X (.Call (.Name x p) (e :: es) [] pos) (liftE X.K cx (wpE T c (.make ci as))) :=
  peImp (pe_make M F hr hg hm hb .nil (pass0 (X := X)) ha hdb he hpl) fun σ H Q ⟨S, σ2, hr, rs, w⟩ => stepA hc hr rs w fun xs S1 vs H1 hr1 k1 rs1 r1 w => fun a dx n nd ne => by
    obtain ⟨h1, h2, h3⟩ := rel_made hc (ci := ci) hr1 k1 n nd ne
    rw [hC] at h1 h2 h3
    have w := w a (hr1.free n)
    rw [hini] at w
    rw [List.append_nil]
    have r2 : Paired (RepX X.K (upd (upd H1 dx (.own a)) a (.ins C dx [])) (su S1 a (.ins ci []))) (.d (.ref a) :: xs) (.ref a :: vs) := by
      refine .cons rfl (Paired.mapP r1 fun y v q => ?_)
      have q := RepX.keep h3 hr1 q
      cases y with
      | d y => exact q
      | vl ds => obtain ⟨b, us, e, z, z', q⟩ := q; exact ⟨b, us, e, z, by rw [su_ne (fun e => by subst e; rw [upd_same] at z; cases z)]; exact z', q⟩
      | bw ds => obtain ⟨b, us, e, z, z', q⟩ := q; exact ⟨b, us, e, z, by rw [su_ne (fun e => by subst e; rw [upd_same] at z; cases z)]; exact z', q⟩
      | vd ds => obtain ⟨b, us, e, z, z', q⟩ := q; exact ⟨b, us, e, z, by rw [su_ne (fun e => by subst e; rw [upd_same] at z; cases z)]; exact z', q⟩
      | bd ds => obtain ⟨b, us, e, z, z', q⟩ := q; exact ⟨b, us, e, z, by rw [su_ne (fun e => by subst e; rw [upd_same] at z; cases z)]; exact z', q⟩
      | fz ds =>
        obtain ⟨b, us, e, z, q⟩ := q
        refine ⟨b, us, e, ?_, q⟩
        rcases z with ⟨o, z, z'⟩ | z
        · exact .inl ⟨o, z, by rw [su_ne (fun e => by subst e; rw [upd_same] at z; cases z)]; exact z'⟩
        · exact .inr z
      | st ds => exact q.elim
    refine ⟨by have := hn _ _ _ w; simpa [Paired.length r1] using this, _, _, h1, r2, hc _ _ _ _ _ (fun z S3 ⟨ez, z', e, q⟩ => ?_) w⟩
    subst ez
    cases e
    intro v H' hr' k' r'
    cases r'.1
    refine ⟨rfl, KVof.of (k := h2) q _ _ hr' k' ⟨rfl, fun e => by cases e⟩⟩
theorem paired_snoc {α β : Type} {F : α → β → Prop} {a : α} {b : β} : ∀ {l₁ : List α} {l₂ : List β}, Paired F l₁ l₂ → F a b → Paired F (l₁ ++ [a]) (l₂ ++ [b])
  | _, _, .nil, h => .cons h .nil
  | _, _, .cons p r, h => .cons p (paired_snoc r h)
theorem snd_maken {ci : Nat} (hini : T.cini ci = f) (hC : cx.adr ci = C) (M : Mk X.K C fa) (F : FnOk X.prog X.w X.K X.mg X.base CX0 k fa fd ps (spOf X.K cx c f np)) (hn : NumOk c f np) (hr : Room (k + 1) X.A) (hg : Gl X x) (hm : X.mg x = some (.ref C)) {ds : List Value} (hb : Binds X.K fd ps ds) (hd : Vals [V.non] ds)
    (ha : PA X (e :: es) (liftA X.K cx (wpE T c as))) (hdb : (x == ("__debug__" : Str)) = false) (he : starEach (e :: es) X.env = (false, eval e X.env) :: starEach es X.env) (hpl : (backTo pos (starEach es X.env)).any (·.1) = false) :
    PE X (.Call (.Name x p) (e :: es) [] pos) (liftE X.K cx (wpE T c (.maken ci as))) :=
  peImp (pe_make M F hr hg hm hb hd (pass0 (X := X)) ha hdb he hpl) fun σ H Q ⟨S, σ2, hr, rs, w⟩ => stepA hc hr rs w fun xs S1 vs H1 hr1 k1 rs1 r1 w => fun a dx n nd ne => by
    obtain ⟨h1, h2, h3⟩ := rel_made hc (ci := ci) hr1 k1 n nd ne
    rw [hC] at h1 h2 h3
    have w := w a (hr1.free n)
    rw [hini] at w
    have r2 : Paired (RepX X.K (upd (upd H1 dx (.own a)) a (.ins C dx [])) (su S1 a (.ins ci []))) (.d (.ref a) :: (xs ++ [.d .non])) (.ref a :: (vs ++ [.non])) := by
      refine .cons rfl (paired_snoc hc (Paired.mapP r1 fun y v q => ?_) rfl)
      have q := RepX.keep h3 hr1 q
      cases y with
      | d y => exact q
      | vl ds => obtain ⟨b, us, e, z, z', q⟩ := q; exact ⟨b, us, e, z, by rw [su_ne (fun e => by subst e; rw [upd_same] at z; cases z)]; exact z', q⟩
      | bw ds => obtain ⟨b, us, e, z, z', q⟩ := q; exact ⟨b, us, e, z, by rw [su_ne (fun e => by subst e; rw [upd_same] at z; cases z)]; exact z', q⟩
      | vd ds => obtain ⟨b, us, e, z, z', q⟩ := q; exact ⟨b, us, e, z, by rw [su_ne (fun e => by subst e; rw [upd_same] at z; cases z)]; exact z', q⟩
      | bd ds => obtain ⟨b, us, e, z, z', q⟩ := q; exact ⟨b, us, e, z, by rw [su_ne (fun e => by subst e; rw [upd_same] at z; cases z)]; exact z', q⟩
      | fz ds =>
        obtain ⟨b, us, e, z, q⟩ := q
        refine ⟨b, us, e, ?_, q⟩
        rcases z with ⟨o, z, z'⟩ | z
        · exact .inl ⟨o, z, by rw [su_ne (fun e => by subst e; rw [upd_same] at z; cases z)]; exact z'⟩
        · exact .inr z
      | st ds => exact q.elim
    refine ⟨by have := hn _ _ _ w; simpa [Paired.length r1] using this, _, _, h1, r2, hc _ _ _ _ _ (fun z S3 ⟨ez, z', e, q⟩ => ?_) w⟩
    subst ez
    cases e
    intro v H' hr' k' r'
    cases r'.1
    refine ⟨rfl, KVof.of (k := h2) q _ _ hr' k' ⟨rfl, fun e => by cases e⟩⟩
end
end
end DL

/-! DL7b: dict displays, get. -/
namespace DL
open PySem L2 PySem.Spec PyProof.Rows
theorem dic_of {K : Frag} {cx : Cls2} {H : Hp} {c : Cn} {kvs : List (D × D)} {v : V} (e : dicOf c = some kvs) (h : CnR K cx H c v) : ∃ a ks, v = .ref a ∧ Rd H a (.dK ks) ∧ DicR K H kvs ks := by
  cases c with
  | k kvs' => cases e; obtain ⟨a, ks, h1, h2, h3⟩ := h; exact ⟨a, ks, h1, .inl h2, h3⟩
  | kf kvs' => cases e; obtain ⟨a, ks, o, h1, h2, h3⟩ := h; exact ⟨a, ks, h1, .inr ⟨o, h2⟩, h3⟩
  | _ => cases e
section
variable {X : Cx} {T : Tbl} {c : Nat → List Vx → Hs → VK2 → Prop} {cx : Cls2} (hc : CalMono c)
include hc
theorem get_fin {K : Frag} {S S3 : Hs} {H H3 : Hp} {Q : VK} {kvs : List (D × D)} {ks : List (Key × V)} {ky dz : D} {zv : V} (hr3 : Rel K cx S3 H3) (k3 : Keep S S3 H H3) (hky : keyD ky = true) (rd : DicR K H3 kvs ks) (rz : RepV K H3 dz zv) (q : kE K cx S H Q [.d ((dget kvs ky).getD dz)] S3) :
    Q ((valV ks (keyK ky)).getD zv) H3 := by
  obtain ⟨x, e, q⟩ := q
  cases e
  obtain ⟨g1, g2⟩ := DicR.get hky rd
  cases hq : dget kvs ky with
  | none =>
    rw [hq] at q
    rw [g2 hq]
    exact fin_d (KVof.of k3 q) hr3 rz
  | some dv =>
    rw [hq] at q
    obtain ⟨v, h1, h2⟩ := g1 dv hq
    rw [h1]
    exact fin_d (KVof.of k3 q) hr3 h2
theorem snd_get1 {o k : R} {eo ek : Expr} {apos cpos : Pos} (hu : X.A.units + 1 < cLine) (ho : PE X eo (liftE X.K cx (wpE T c o))) (hk : PE X ek (liftE X.K cx (wpE T c k))) (m : M1 X eo "get" apos ek cpos) :
    PE X (.Call (.Attribute eo "get" apos) [ek] [] cpos) (liftE X.K cx (wpE T c (.get1 o k))) :=
  peImp (pe_dget1 hu ho hk m) fun σ H Q ⟨S, σ2, hr, rs, w⟩ => stepE hc hr rs w fun x S1 v H1 hr1 k1 rs1 r1 ⟨wv, w⟩ => by
    obtain ⟨cn, ⟨kvs, ek⟩, hcn⟩ := view_of hr1 r1.1 wv
    obtain ⟨a, ks, rfl, ha, _⟩ := dic_of ek hcn
    refine ⟨a, rfl, .inl ⟨ks, ha⟩, stepE hc hr1 rs1 w fun y S2 yv H2 hr2 k2 rs2 r2 w => ?_⟩
    obtain ⟨cn, ⟨kvs', ky, ek', rfl, hky, q⟩, hcn⟩ := view_of hr2 (r1.1.keep k2 hr1) w
    obtain ⟨a', ks', e, ha', rd⟩ := dic_of ek' hcn
    cases e
    have ey := key_rel hky r2.1
    subst ey
    exact ⟨valV ks' (keyK ky), .inl ⟨ks', keyK ky, ha', rfl, rfl⟩, get_fin hc hr2 (k1.trans k2) hky rd (dz := .non) rfl q⟩
theorem snd_get2 {o k d : R} {eo ek ed : Expr} {apos cpos : Pos} (hu : X.A.units + 1 < cLine) (ho : PE X eo (liftE X.K cx (wpE T c o))) (hk : PE X ek (liftE X.K cx (wpE T c k))) (hd : PE X ed (liftE X.K cx (wpE T c d))) (m : M2 X eo "get" apos ek ed cpos) :
    PE X (.Call (.Attribute eo "get" apos) [ek, ed] [] cpos) (liftE X.K cx (wpE T c (.get2 o k d))) :=
  peImp (pe_dget2 hu ho hk hd m) fun σ H Q ⟨S, σ2, hr, rs, w⟩ => stepE hc hr rs w fun x S1 v H1 hr1 k1 rs1 r1 ⟨wv, w⟩ => by
    obtain ⟨cn, ⟨kvs, ek⟩, hcn⟩ := view_of hr1 r1.1 wv
    obtain ⟨a, ks, rfl, ha, _⟩ := dic_of ek hcn
    refine ⟨a, rfl, .inl ⟨ks, ha⟩, stepE hc hr1 rs1 w fun y S2 yv H2 hr2 k2 rs2 r2 w => stepE hc hr2 rs2 w fun z S3 zv H3 hr3 k3 rs3 r3 w => ?_⟩
    obtain ⟨cn, ⟨kvs', ky, dz, ek', rfl, rfl, hky, q⟩, hcn⟩ := view_of hr3 ((r1.1.keep k2 hr1).keep k3 hr2) w
    obtain ⟨a', ks', e, ha', rd⟩ := dic_of ek' hcn
    cases e
    have ry := RepV.keep (k3.tups hr2) _ _ r2.1
    have ey := key_rel hky ry
    subst ey
    exact ⟨valV ks' (keyK ky), .inl ⟨ks', keyK ky, ha', rfl, rfl⟩, get_fin hc hr3 ((k1.trans k2).trans k3) hky rd r3.1 q⟩
/-! pairs -/
/-- the pairs told: alternately keys, values -/
def PrR (K : Frag) (H : Hp) (S : Hs) : List Vx → List (V × V) → Prop
  | [], ps => ps = []
  | x :: y :: r, ps => ∃ u v q, ps = (u, v) :: q ∧ RepX K H S x u ∧ RepX K H S y v ∧ PrR K H S r q
  | _, _ => False
def isPr : R → Bool
  | .nil => true
  | .pr _ _ r => isPr r
  | _ => false
def prTrs (K : Frag) (cx : Cls2) (T : Tbl) (c : Nat → List Vx → Hs → VK2 → Prop) : R → List (TE × TE)
  | .pr k v r => (liftE K cx (wpE T c k), liftE K cx (wpE T c v)) :: prTrs K cx T c r
  | _ => []
theorem prs_ok {K : Frag} {σ2 : Sl} {σ : L2.St} : ∀ (r : R), isPr r = true → ∀ (S : Hs) (H : Hp) (P : LK2) (Q : List (V × V) → Hp → Prop), Rel K cx S H → RelX K S H σ2 σ → wpE T c r σ2 S P →
    (∀ xs S' ps H', Rel K cx S' H' → Keep S S' H H' → PrR K H' S' xs ps → P xs S' → Q ps H') → tPairs (prTrs K cx T c r) σ H Q
  | .nil, _, S, H, P, Q, hr, rs, w, q => q [] S [] H hr .refl rfl w
  | .pr k v r, h, S, H, P, Q, hr, rs, w, q => stepE hc hr rs w fun x S1 xv H1 hr1 k1 rs1 r1 w => stepE hc hr1 rs1 w fun y S2 yv H2 hr2 k2 rs2 r2 w => by
    obtain ⟨d, S3, w, hr3, k3, rd, _⟩ := rel_box hc hr2 k2 r2 w
    refine prs_ok r h S3 H2 _ _ hr3 (rs1.keep k3 hr1) w fun xs S' ps H' hr' k' pr p => q (x :: .d d :: xs) S' _ H' hr' ((k1.trans k3).trans k') ⟨xv, yv, ps, rfl, (r1.1.keep k3 hr1).keep k' hr3, RepV.keep (k'.tups hr3) _ _ rd, pr⟩ p
theorem prs_dic {K : Frag} {H : Hp} {S : Hs} : ∀ (n : Nat) (xs : List Vx) (ps : List (V × V)) (kvs : List (D × D)), xs.length ≤ n → PrR K H S xs ps → prsOf xs = some kvs → ∃ ks : List (Key × V), ps = ks.map (fun kv => (kV kv.1, kv.2)) ∧ DicR K H kvs ks
  | _, [], ps, kvs, _, pr, e => by
    cases e
    have pr : ps = [] := pr
    subst pr
    exact ⟨[], rfl, .nil⟩
  | _, [x], ps, kvs, _, pr, e => by cases pr
  | 0, x :: y :: r, ps, kvs, hl, pr, e => by simp at hl
  | n + 1, x :: y :: r, ps, kvs, hl, pr, e => by
    obtain ⟨u, v, q, rfl, ru, rv, pr⟩ := pr
    cases x with
    | d k =>
      cases y with
      | d z =>
        have e : (match keyD k, prsOf r with | true, some kvs => some ((k, z) :: kvs) | _, _ => none) = some kvs := e
        split at e
        · rename_i es hk he
          cases e
          obtain ⟨ks, rfl, rr⟩ := prs_dic n r q es (by simp at hl; omega) pr he
          have ek := key_rel hk ru
          subst ek
          exact ⟨(keyK k, v) :: ks, rfl, .cons ⟨keyR_mk hk, rv⟩ rr⟩
        · cases e
      | _ => cases e
    | _ => cases e
theorem mrg_rel {K : Frag} {H : Hp} : ∀ {more : List (D × D)} {ms : List (Key × V)} {kvs : List (D × D)} {ks : List (Key × V)}, (∀ p ∈ more, keyD p.1 = true) → DicR K H more ms → DicR K H kvs ks → DicR K H (mrgD kvs more) (mergeK ks ms)
  | [], _, kvs, ks, _, .nil, r => r
  | p :: more, b :: bs, kvs, ks, hk, .cons h t, r => by
    have e := (KeyR.of h.1).2
    show DicR K H (mrgD (dput kvs p.1 p.2) more) (mergeK (putK ks b.1 b.2) bs)
    refine mrg_rel (more := more) (fun q hq => hk q (List.mem_cons_of_mem _ hq)) t ?_
    rw [e]
    exact r.put (hk p List.mem_cons_self) h.2
theorem prs_key : ∀ (n : Nat) (xs : List Vx) (kvs : List (D × D)), xs.length ≤ n → prsOf xs = some kvs → ∀ p ∈ kvs, keyD p.1 = true
  | _, [], kvs, _, e => by cases e; simp
  | _, [x], kvs, _, e => by cases x <;> cases e
  | 0, x :: y :: r, kvs, hl, e => by simp at hl
  | n + 1, x :: y :: r, kvs, hl, e => by
    cases x with
    | d k =>
      cases y with
      | d z =>
        have e : (match keyD k, prsOf r with | true, some kvs => some ((k, z) :: kvs) | _, _ => none) = some kvs := e
        split at e
        · rename_i es hk he
          cases e
          intro p hp
          rcases List.mem_cons.mp hp with rfl | hp
          · exact hk
          · exact prs_key n r es (by simp at hl; omega) he p hp
        · cases e
      | _ => cases e
    | _ => cases e
theorem snd_dctp {ps : R} {keys : List (Option Expr)} {values : List Expr} {pos : Pos} (hp : isPr ps = true) (h : PPs X pos keys values (prTrs X.K cx T c ps)) (hall : keys.all (·.isSome) = true) (hl : keys.length = values.length) (h0 : keys ≠ []) (h15 : keys.length ≤ 15) :
    PE X (.Dict keys values pos) (liftE X.K cx (wpE T c (.dctp ps))) :=
  peImp (pe_disp h hall hl h0 h15) fun σ H Q ⟨S, σ2, hr, rs, w⟩ => fun p n => by
    have k0 : Keep S S H (upd H p (.dK [])) := Keep.new n
    have hr0 : Rel X.K cx S (upd H p (.dK [])) := hr.upd0 (hr.free n) (tupS_new n)
    refine prs_ok hc ps hp S _ _ _ hr0 (rs.keep k0 hr) w fun xs S1 vs H1 hr1 k1 pr ⟨kvs, e, hz, q⟩ => ?_
    obtain ⟨hp1, sp1⟩ := k1.kp p _ upd_same (hr.free n)
    obtain ⟨ks, rfl, rd⟩ := prs_dic hc _ xs vs kvs (Nat.le_refl _) pr e
    obtain ⟨x, ex, q⟩ := q
    cases ex
    have t : TupS X.K H1 (upd H1 p (.dK (mergeK [] ks))) := tupS_upd fun o e => by rw [hp1] at e; cases e; rfl
    refine ⟨hp1, ks, rfl, by rw [← DicR.length rd]; exact hz, q _ _ (hr1.upd0 sp1 t) ⟨fun b o e' nb => ?_, fun b e' => ?_⟩ ⟨⟨p, _, rfl, upd_same, sp1, (mrg_rel hc (prs_key hc _ xs kvs (Nat.le_refl _) e) rd .nil).keep t⟩, fun _ => ⟨p, rfl, n⟩⟩⟩
    · have ne : b ≠ p := fun z => by subst z; rw [n] at e'; cases e'
      obtain ⟨g1, g2⟩ := (k0.trans k1).kp b o e' nb
      exact ⟨by rw [upd_ne ne]; exact g1, g2⟩
    · by_cases ne : b = p
      · subst ne; exact n
      · rw [upd_ne ne] at e'
        exact (k0.trans k1).up b e'
end
end DL

/-! DL7d: dict(xs) of a list of pairs of ints. -/
namespace DL
open PySem L2 PySem.Spec PyProof.Rows
section
variable {X : Cx} {cx : Cls2}
theorem pairs_refs0 {K : Frag} {H : Hp} {ps : List (Int × Int)} {vs : List V} (h : Paired (fun (p : Int × Int) (v : V) => ∃ t, v = .ref t ∧ SqT K H t [.int p.1, .int p.2]) ps vs) :
    ∃ as : List Addr, vs = as.map V.ref ∧ Paired (fun (t : Addr) (kv : Key × V) => SqT K H t [kV kv.1, kv.2]) as (ps.map fun p => ((.inl p.1 : Key), V.int p.2)) := by
  induction h with
  | nil => exact ⟨[], rfl, .nil⟩
  | cons h _ ih =>
    obtain ⟨t, rfl, q⟩ := h
    obtain ⟨as, rfl, q'⟩ := ih
    exact ⟨t :: as, rfl, .cons q q'⟩
theorem dic_prs0 {K : Frag} {H : Hp} : ∀ ps : List (Int × Int), DicR K H (ps.map fun p => (D.int p.1, D.int p.2)) (ps.map fun p => ((.inl p.1 : Key), V.int p.2))
  | [] => .nil
  | _ :: ps => .cons ⟨rfl, rfl⟩ (dic_prs0 ps)
theorem mrg_rel0 {K : Frag} {H : Hp} : ∀ {more : List (D × D)} {ms : List (Key × V)} {kvs : List (D × D)} {ks : List (Key × V)}, (∀ p ∈ more, keyD p.1 = true) → DicR K H more ms → DicR K H kvs ks → DicR K H (mrgD kvs more) (mergeK ks ms)
  | [], _, kvs, ks, _, .nil, r => r
  | p :: more, b :: bs, kvs, ks, hk, .cons h t, r => by
    have e := (KeyR.of h.1).2
    show DicR K H (mrgD (dput kvs p.1 p.2) more) (mergeK (putK ks b.1 b.2) bs)
    refine mrg_rel0 (more := more) (fun q hq => hk q (List.mem_cons_of_mem _ hq)) t ?_
    rw [e]
    exact r.put (hk p List.mem_cons_self) h.2
theorem call1_dictP (hcalm : X.calm = true) : CallR X (.type "dict") (c1of X.K cx .dictP) := by
  intro pins s σ H xs us Q I r w
  obtain ⟨v, rfl, S, a, hr, ra, w⟩ := w
  obtain ⟨c, w, hc⟩ := view_of hr ra w
  obtain ⟨ps, rfl, w⟩ := w
  obtain ⟨p, vs, rfl, hp, r1⟩ := hc
  obtain ⟨as, rfl, pa⟩ := pairs_refs0 (reps_pairs r1)
  have hk : ∀ q ∈ (ps.map fun p => (D.int p.1, D.int p.2)), keyD q.1 = true := fun q hq => by
    obtain ⟨z, _, rfl⟩ := List.mem_map.mp hq; rfl
  exact call_dictP hcalm pins s σ H _ us Q I r ⟨p, as, ps.map fun p => ((.inl p.1 : Key), V.int p.2), rfl, SqL.of hp, pa, fun q hq =>
    w _ _ (hr.upd0 (hr.free hq) (tupS_new hq)) (.new hq) ⟨⟨q, _, rfl, upd_same, hr.free hq, (mrg_rel0 hk (dic_prs0 ps) .nil).keep (tupS_new hq)⟩, fun _ => ⟨q, rfl, hq⟩⟩⟩
end
end DL

/-! DL8: mutators as expressions, what is walked, comprehensions. -/
namespace DL
open PySem L2 PySem.Spec PyProof.Rows
theorem mout_rel {K : Frag} {cx : Cls2} {S : Hs} {H H' : Hp} {a : Addr} {c' : Cn} {o' ob : O} (hr : Rel K cx S H) (e : S a = some ob) (m : MOut K cx H a c' H') (ho : c'.o = some o') : Rel K cx (su S a o') H' ∧ Keep S (su S a o') H H' := by
  obtain ⟨h', rfl, hc, hs⟩ := m
  refine ⟨hr.upd1 (tupS_upd hs) ?_, ⟨fun b o z n => ?_, fun b z => ?_⟩⟩
  · cases c' with
    | l ds => cases ho; obtain ⟨p, vs, e, h, r⟩ := hc; cases e; exact ⟨vs, h, r⟩
    | k ds => cases ho; obtain ⟨p, vs, e, h, r⟩ := hc; cases e; exact ⟨vs, h, r⟩
    | kn ds => cases ho; obtain ⟨p, vs, e, h, r⟩ := hc; cases e; exact ⟨vs, h, r⟩
    | _ => cases ho
  · have ne : b ≠ a := fun z => by subst z; rw [e] at n; cases n
    exact ⟨by rw [upd_ne ne]; exact z, by rw [su_ne ne]; exact n⟩
  · by_cases ne : b = a
    · subst ne; rw [upd_same] at z; cases z
    · rw [upd_ne ne] at z; exact z
section
variable {X : Cx} {T : Tbl} {c : Nat → List Vx → Hs → VK2 → Prop} {cx : Cls2} (hc : CalMono c)
include hc
theorem snd_hm {m : M} {o as : R} {eo e : Expr} {es : List Expr} (hp : ∀ to t, PE X eo to → PA X es t → PE X e (tBM X.K "list" (mOf X.K cx m) to t)) (ho : PE X eo (liftE X.K cx (wpE T c o))) (ha : PA X es (liftA X.K cx (wpE T c as))) :
    PE X e (liftE X.K cx (wpE T c (.hm m o as))) :=
  peImp (hp _ _ ho ha) fun σ H Q ⟨S, σ2, hr, rs, w⟩ => stepE hc hr rs w fun x S0 v H1 hr0 k0 rs0 r0 w => by
    obtain ⟨dd, S1, ⟨a, ds, ex, ed, w⟩, hr1, k1, r1, _⟩ := rel_box hc hr0 k0 r0 w
    subst ex
    cases r1
    have rs1 := rs.keep k1 hr
    obtain ⟨vs0, h0, _⟩ := hr1 a _ ed
    refine ⟨.inl ⟨rfl, _, SqL.of h0⟩, stepA hc hr1 rs1 w fun xs S2 vs H2 hr2 k2 rs2 r2 ⟨ob, e2, w⟩ => ?_⟩
    have z := hr2 a ob e2
    have hcn : CnR X.K cx H2 ob.cn (.ref a) := by
      cases ob with
      | lst ds => obtain ⟨us, h, r⟩ := z; exact ⟨a, us, rfl, h, r⟩
      | dic ds => obtain ⟨us, h, r⟩ := z; exact ⟨a, us, rfl, h, r⟩
      | fdc ds y => obtain ⟨h, o, ks, e1, r⟩ := z; subst e1; exact ⟨a, ks, o, rfl, h, r⟩
      | dn ds => obtain ⟨us, h, r⟩ := z; exact ⟨a, us, rfl, h, r⟩
      | fdn ds y ks => obtain ⟨h, o, e1, r⟩ := z; subst e1; exact ⟨a, ks, o, rfl, h, r⟩
      | ins ci fs => exact ⟨a, rfl, z⟩
    refine ⟨S2, ob.cn, a, xs, hr2, rfl, hcn, r2, mutC_mono (fun c' r ⟨o', ho', x, e, q⟩ H' v' mo rv => ?_) w⟩
    cases e
    obtain ⟨h1, h2⟩ := mout_rel hr2 e2 mo ho'
    exact KVof.of (k1.trans k2) q _ _ h1 h2 ⟨rv, fun e => by cases e⟩
omit hc in
theorem DicR.drop {K : Frag} {H : Hp} {x : D} (hx : keyD x = true) : ∀ {kvs : List (D × D)} {ks : List (Key × V)}, DicR K H kvs ks → DicR K H (ddrop kvs x) (dropK ks (keyK x))
  | _, _, .nil => .nil
  | (k, y) :: r, (k', v) :: r', .cons h t => by
    have ih := DicR.drop hx t
    obtain ⟨hk, hv⟩ := h
    obtain ⟨h1, h2⟩ := KeyR.of hk
    have e : eqB k x = decide (keyK k = keyK x) := eqB_key h1 hx
    have h2 : k' = keyK k := h2
    unfold ddrop dropK at ih ⊢
    rw [List.filter_cons, List.filter_cons]
    by_cases q : keyK k = keyK x
    · rw [if_neg (by show ¬ (!eqB k x) = true; rw [e, decide_eq_true q]; decide), if_neg (by show ¬ decide (k' ≠ keyK x) = true; rw [decide_eq_true_eq]; exact fun z => z (h2.trans q))]
      exact ih
    · rw [if_pos (by show (!eqB k x) = true; rw [e, decide_eq_false q]; rfl), if_pos (by show decide (k' ≠ keyK x) = true; rw [decide_eq_true_eq]; exact fun z => q (h2.symm.trans z))]
      exact .cons ⟨hk, hv⟩ ih
theorem snd_dpop {o k : R} {eo ek : Expr} {apos cpos : Pos} (ho : PE X eo (liftE X.K cx (wpE T c o))) (hk : PE X ek (liftE X.K cx (wpE T c k))) (m : M1 X eo "pop" apos ek cpos) :
    PE X (.Call (.Attribute eo "pop" apos) [ek] [] cpos) (liftE X.K cx (wpE T c (.dpop o k))) :=
  peImp (pe_dpop1 ho hk m) fun σ H Q ⟨S, σ2, hr, rs, w⟩ => stepE hc hr rs w fun x S1 v H1 hr1 k1 rs1 r1 ⟨a, kvs0, ex, ea, w⟩ => by
    subst ex
    cases r1.1
    obtain ⟨ks0, h0, _⟩ := hr1 a _ ea
    refine ⟨a, rfl, .inl ⟨ks0, .inl h0⟩, stepE hc hr1 rs1 w fun y S2 yv H2 hr2 k2 rs2 r2 ⟨kvs, ky, dv, ey, hky, e2, hg, q⟩ => ?_⟩
    subst ey
    obtain ⟨ks, h2, rd⟩ := hr2 a _ e2
    have ey := key_rel hky r2.1
    subst ey
    obtain ⟨vv, hv, rv⟩ := (DicR.get hky rd).1 dv hg
    refine ⟨ks, keyK ky, vv, h2, rfl, hv, ?_⟩
    have mo : MOut X.K cx H2 a (.k (ddrop kvs ky)) (upd H2 a (.dK (dropK ks (keyK ky)))) := mout_k h2 (DicR.drop hky rd)
    obtain ⟨h3, h4⟩ := mout_rel hr2 e2 mo rfl
    obtain ⟨x, e, q⟩ := q
    cases e
    exact KVof.of (k1.trans k2) q _ _ h3 h4 ⟨RepV.keep (dic_tups h2) _ _ rv, fun e => by cases e⟩
theorem snd_hm0 {m : M} {o : R} {eo e : Expr} (hp : ∀ to, PE X eo to → PE X e (tBM0 X.K "list" (mOf X.K cx m) to)) (ho : PE X eo (liftE X.K cx (wpE T c o))) :
    PE X e (liftE X.K cx (wpE T c (.hm m o .nil))) :=
  peImp (hp _ ho) fun σ H Q ⟨S, σ2, hr, rs, w⟩ => stepE hc hr rs w fun x S0 v H1 hr0 k0 rs0 r9 w => by
    obtain ⟨dd, S1, ⟨a, ds, ex, ed, w⟩, hr1, k1, r1, _⟩ := rel_box hc hr0 k0 r9 w
    subst ex
    cases r1
    obtain ⟨vs0, h0, r0⟩ := hr1 a _ ed
    obtain ⟨ob, e2, w⟩ := w
    rw [ed] at e2; cases e2
    refine ⟨.inl ⟨rfl, _, SqL.of h0⟩, S1, .l ds, a, [], hr1, rfl, ⟨a, vs0, rfl, h0, r0⟩, .nil, mutC_mono (fun c' r ⟨o', ho', x, e, q⟩ H' v' mo rv => ?_) w⟩
    cases e
    obtain ⟨h1, h2⟩ := mout_rel hr1 ed mo ho'
    exact KVof.of k1 q _ _ h1 h2 ⟨rv, fun e => by cases e⟩
end

/-! ### what is walked -/
def OwnA (σ2 : Sl) (σ : L2.St) (b : Addr) : Prop := ∃ (i : Nat) (x : Vx), σ2[i]? = some (some x) ∧ own x = true ∧ σ[i]? = some (some (.ref b))
def lentB : Vx → Bool
  | .vl _ => true
  | .bw _ => true
  | _ => false
/-- the place of a slot's list that is walked -/
def srcA : R → Sl → L2.St → Addr → Prop
  | .itv i, σ2, σ, b => ∃ x : Vx, σ2[i]? = some (some x) ∧ lentB x = true ∧ σ[i]? = some (some (.ref b))
  | .enu a, σ2, σ, b => srcA a σ2 σ b
  | .zip a a', σ2, σ, b => srcA a σ2 σ b ∨ srcA a' σ2 σ b
  | _, _, _, _ => False
section
variable (K : Frag) (cx : Cls2)
/-- while what is at Pz stands, each turn yields the next item -/
def Later (S1 : Hs) (H1 : Hp) (ok : Sl → Hs → Prop) (G : Hs → Hp → Prop) (P : Addr → Prop) : Prop :=
  ∀ Pz : Addr → Prop, (∀ b, S1 b = none → H1 b ≠ none → P b → Pz b) → ∀ S H σ2, Rel K cx S H → (∀ b, Pz b → S b = none ∧ H b = H1 b) → ok σ2 S → G S H
def ItG (J : It) (items : List D) (S : Hs) (H : Hp) : Prop := ∀ i : Nat, (∀ d, items[i]? = some d → J.go i H ∧ ∀ x H', J.yld i H x H' → Rel K cx S H' ∧ Keep S S H H' ∧ RepV K H' d x) ∧ (items.length = i → J.stop i H)
def liftI (it : R) (w : WI) : TI := fun σ H R => ∃ S σ2, Rel K cx S H ∧ RelX K S H σ2 σ ∧ w σ2 S fun J2 S1 => ∀ J H1, Rel K cx S1 H1 → Keep S S1 H H1 → Later K cx S1 H1 J2.ok (ItG K cx J J2.items) (fun b => OwnA σ2 σ b → srcA it σ2 σ b) → R J H1
/-- a source: a list or a tuple at an address -/
def SrcL (S1 : Hs) (H1 : Hp) (J2 : It2) (P : Addr → Prop) (a : Addr) : Prop := J2.tu = false ∧ (∃ vs, SqL K H1 a vs) ∧ Later K cx S1 H1 J2.ok (fun _ H => ∃ vs, SqL K H a vs ∧ RepL K H J2.items vs) P
def SrcT (S1 : Hs) (H1 : Hp) (J2 : It2) (P : Addr → Prop) (a : Addr) : Prop := J2.tu = true ∧ (∃ vs, SqT K H1 a vs) ∧ Later K cx S1 H1 J2.ok (fun _ H => ∃ vs, SqT K H a vs ∧ RepL K H J2.items vs) P
def liftSrc (it : R) (w : WI) : TE := fun σ H Q => ∃ S σ2, Rel K cx S H ∧ RelX K S H σ2 σ ∧ w σ2 S fun J2 S1 => ∀ a H1, Rel K cx S1 H1 → Keep S S1 H H1 →
  (SrcL K cx S1 H1 J2 (fun b => OwnA σ2 σ b → srcA it σ2 σ b) a ∨ SrcT K cx S1 H1 J2 (fun b => OwnA σ2 σ b → srcA it σ2 σ b) a) → Q (.ref a) H1
end
section
variable {K : Frag} {cx : Cls2} {S S1 : Hs} {H H1 : Hp} {σ2 : Sl} {σ : L2.St}
/-- the address of a slot's own list holds no tuple -/
theorem ownA_not (rs : RelX K S H σ2 σ) {b : Addr} (h : OwnA σ2 σ b) : ∃ o, H b = some o ∧ seqish o = false := by
  obtain ⟨i, x, e, ho, e2⟩ := h
  obtain ⟨v, e3, r⟩ := rs.2 i x e
  rw [e2] at e3; cases e3
  cases x with
  | vl ds => obtain ⟨a, vs, e, h, _⟩ := r; cases e; exact ⟨_, h, rfl⟩
  | vd ds => obtain ⟨a, vs, e, h, _⟩ := r; cases e; exact ⟨_, h, rfl⟩
  | _ => cases ho
theorem later_tup (hr1 : Rel K cx S1 H1) (rs1 : RelX K S1 H1 σ2 σ) {P Pz : Addr → Prop} (hP : ∀ b, ¬ OwnA σ2 σ b → P b) (hz : ∀ b, S1 b = none → H1 b ≠ none → P b → Pz b) {H' : Hp} {S' : Hs} (k : ∀ b, Pz b → S' b = none ∧ H' b = H1 b) : TupS K H1 H' := by
  intro t vs hs
  have key : ∀ o, H1 t = some o → seqish o = true → H' t = some o := fun o e q => by
    refine ((k t (hz t ?_ (by rw [e]; simp) (hP t fun z => ?_))).2).trans e
    · cases z : S1 t with
      | none => rfl
      | some u =>
        obtain ⟨h, h1, h2⟩ := (hr1 t u z).some
        rw [e] at h1; cases h1
        rw [q] at h2; cases h2
    · obtain ⟨o', h1, h2⟩ := ownA_not rs1 z
      rw [e] at h1; cases h1
      rw [q] at h2; cases h2
  rcases hs with (hs | ⟨o, hs⟩) | hs
  · exact .inl (.inl (key _ hs rfl))
  · exact .inl (.inr ⟨o, key _ hs rfl⟩)
  · exact .inr hs
theorem src_of {it : R} {l : Bool} {x : Vx} {v : V} {Q : V → Hp → Prop} {H0 : Hp} {S0 : Hs} (rs0 : RelX K S0 H0 σ2 σ) (hr1 : Rel K cx S1 H1) (k1 : Keep S0 S1 H0 H1) (rs1 : RelX K S1 H1 σ2 σ) (r1 : RepX K H1 S1 x v)
    (hown : ∀ a, v = .ref a → lentB x = true → OwnA σ2 σ a → srcA it σ2 σ a)
    (w : srcX l x S1 fun J2 S2 => ∀ a H2, Rel K cx S2 H2 → Keep S0 S2 H0 H2 → (SrcL K cx S2 H2 J2 (fun b => OwnA σ2 σ b → srcA it σ2 σ b) a ∨ SrcT K cx S2 H2 J2 (fun b => OwnA σ2 σ b → srcA it σ2 σ b) a) → Q (.ref a) H2) : Q v H1 := by
  have hP : ∀ b, ¬ OwnA σ2 σ b → (OwnA σ2 σ b → srcA it σ2 σ b) := fun b h z => (h z).elim
  have lst : ∀ {a : Addr} {vs : List V} {ds : List D}, H1 a = some (.lst vs) → S1 a = none → RepL K H1 ds vs → (OwnA σ2 σ a → srcA it σ2 σ a) → SrcL K cx S1 H1 ⟨ds, fun _ _ => True, false⟩ (fun b => OwnA σ2 σ b → srcA it σ2 σ b) a :=
    fun {a vs ds} h n r p => ⟨rfl, ⟨vs, SqL.of h⟩, fun Pz hz S H σ' hr k _ => ⟨vs, SqL.of ((k a (hz a n (by rw [h]; simp) p)).2.trans h), r.keep (later_tup hr1 rs1 hP hz k)⟩⟩
  unfold srcX at w
  split at w
  · obtain ⟨t, vs, rfl, h, r⟩ := r1
    exact w t H1 hr1 k1 (.inr ⟨rfl, ⟨vs, h⟩, fun Pz hz S H σ' hr k _ => ⟨vs, later_tup hr1 rs1 hP hz k _ _ h, r.keep (later_tup hr1 rs1 hP hz k)⟩⟩)
  · cases r1
    obtain ⟨ds, e, w⟩ := w
    obtain ⟨vs, h, _⟩ := hr1 _ _ e
    exact w _ H1 hr1 k1 (.inl ⟨rfl, ⟨vs, SqL.of h⟩, fun Pz hz S H σ' hr k ok => by obtain ⟨vs', h', r'⟩ := hr _ _ ok; exact ⟨vs', SqL.of h', r'⟩⟩)
  · obtain ⟨a, vs, rfl, h, n, r⟩ := r1
    exact w a H1 hr1 k1 (.inl (lst h n r (hown a rfl rfl)))
  · obtain ⟨a, vs, rfl, h, n, r⟩ := r1
    exact w a H1 hr1 k1 (.inl (lst h n r (hown a rfl rfl)))
  · obtain ⟨a, vs, rfl, h, r⟩ := r1
    refine w a H1 hr1 k1 (.inl ⟨rfl, ⟨vs, fz_sql h⟩, fun Pz hz S H σ' hr k _ => ⟨vs, ?_, r.keep (later_tup hr1 rs1 hP hz k)⟩⟩)
    rcases h with ⟨o, h, n⟩ | h
    · refine .inl (.inr ⟨o, (k a (hz a n (by rw [h]; simp) fun z => ?_)).2.trans h⟩)
      obtain ⟨o', h1, h2⟩ := ownA_not rs1 z
      rw [h] at h1; cases h1
      cases h2
    · exact sqL_none h
  · exact w.elim
end
section
variable {X : Cx} {T : Tbl} {c : Nat → List Vx → Hs → VK2 → Prop} {cx : Cls2} (hc : CalMono c)
include hc
theorem src_v {i : Nat} {x : Str} {pos : Pos} (hN : X.N[i]? = some x) (hv : Vis X.env.scope x) (h1 : (x == ("__debug__" : Str)) = false) (h2 : (x == ("__classdict__" : Str)) = false) : PE X (.Name x pos) (liftSrc X.K cx (.itv i) (wpI T c (.itv i))) :=
  peImp (pe_var hN hv h1 h2) fun σ H Q ⟨S, σ2, hr, rs, x, e, w⟩ => by
    obtain ⟨v, h1, h2⟩ := rs.2 i x e
    exact ⟨v, h1, src_of (it := .itv i) rs hr .refl rs h2 (fun a ea hl _ => ⟨x, e, hl, by rw [h1, ea]⟩) w⟩
theorem src_e {a : R} {ea : Expr} (ha : PE X ea (liftE X.K cx (wpE T c a))) : PE X ea (liftSrc X.K cx (.ite a) (wpI T c (.ite a))) :=
  peImp ha fun σ H Q ⟨S, σ2, hr, rs, w⟩ => stepE hc hr rs w fun x S1 v H1 hr1 k1 rs1 r1 w => by
    refine src_of rs hr1 k1 rs1 r1.1 (fun a ea hl ho => ?_) w
    cases x with
    | vl ds =>
      obtain ⟨a', e, n⟩ := r1.2 rfl
      rw [ea] at e; cases e
      obtain ⟨o, h1, _⟩ := ownA_not rs ho
      rw [n] at h1; cases h1
    | bw ds => exact w.elim
    | _ => cases hl
/-- a list or a tuple walked -/
def iAny (K : Frag) (tl : TE) : TI := fun σ H R => tl σ H fun x H1 => ∃ a, x = .ref a ∧ (((∃ xs, SqL K H1 a xs) ∧ R (Itl K a) H1) ∨ ((∃ xs, SqT K H1 a xs) ∧ R (Itt K a) H1))
omit hc in
theorem pi_any {tg l : Expr} {tl : TE} (hl : PE X l tl) : PI X tg l (iAny X.K tl) := by
  refine ⟨fun pins s σ H R I h => ?_⟩
  refine thn (hl.run pins s σ H _ I h) fun v s1 ⟨x, H1, I1, r1, q1⟩ => ?_
  obtain ⟨a, e, q⟩ := q1
  subst e
  cases r1
  rcases q with ⟨⟨xs, hq⟩, q⟩ | ⟨⟨xs, hq⟩, q⟩
  · obtain ⟨its, rv, p, hz⟩ := I1.list hq
    refine wpAny_pyIter_list p.isList ?_
    refine ⟨s1.heap.objs.size, [s1.heap.objs.size], _, _, H1, rfl, I1.kept (t' := s1.toks) fun b o e => Heap.get?_push_of_some _ e, turn_list a _, ⟨_, Heap.get?_push_size _ rfl, rfl, rfl⟩, fun b hb => ?_, q⟩
    have e : b = s1.heap.objs.size := by simpa using hb
    subst e
    exact I1.fpOk (Nat.le_refl _) (I1.hok.fresh (Nat.le_refl _))
  · obtain ⟨its, rv, p, hz⟩ := I1.tuple hq
    refine wpAny_pyIter_tuple (show s1.heap.IsTuple a its.toArray from p) ?_
    refine ⟨s1.heap.objs.size, [s1.heap.objs.size], _, _, H1, rfl, I1.kept (t' := s1.toks) fun b o e => Heap.get?_push_of_some _ e, turn_tuple a _, ⟨_, Heap.get?_push_size _ rfl, rfl, rfl⟩, fun b hb => ?_, q⟩
    have e : b = s1.heap.objs.size := by simpa using hb
    subst e
    exact I1.fpOk (Nat.le_refl _) (I1.hok.fresh (Nat.le_refl _))
theorem piImp {tg e : Expr} {t t' : TI} (h : PI X tg e t) (i : ∀ σ H R, t' σ H R → t σ H R) : PI X tg e t' := ⟨fun pins s σ H R I w => h.run pins s σ H R I (i _ _ _ w)⟩
theorem walk_src {it : R} {tg e : Expr} (h : PE X e (liftSrc X.K cx it (wpI T c it))) : PI X tg e (liftI X.K cx it (wpI T c it)) :=
  piImp hc (pi_any h) fun σ H R ⟨S, σ2, hr, rs, w⟩ => ⟨S, σ2, hr, rs, wpI_mono hc w fun J2 S1 q a H1 hr1 k1 src => ⟨a, rfl, by
    rcases src with ⟨_, ⟨vs, h⟩, lt⟩ | ⟨_, ⟨vs, h⟩, lt⟩
    · refine .inl ⟨⟨vs, h⟩, q (Itl X.K a) H1 hr1 k1 fun Pz hz S H σ' hr k ok i => ?_⟩
      obtain ⟨us, h1, h2⟩ := lt Pz hz S H σ' hr k ok
      refine ⟨fun d e => ?_, fun e => ⟨us, h1, by rw [← h2.length]; exact Nat.le_of_eq e⟩⟩
      obtain ⟨v, h3, h4⟩ := h2.get e
      refine ⟨⟨us, v, h1, h3⟩, fun x H' y => ?_⟩
      obtain ⟨e1, e2⟩ := y
      subst e1
      have := e2 us h1
      rw [h3] at this; cases this
      exact ⟨hr, .refl, h4⟩
    · refine .inr ⟨⟨vs, h⟩, q (Itt X.K a) H1 hr1 k1 fun Pz hz S H σ' hr k ok i => ?_⟩
      obtain ⟨us, h1, h2⟩ := lt Pz hz S H σ' hr k ok
      refine ⟨fun d e => ?_, fun e => ⟨us, h1, by rw [← h2.length]; exact Nat.le_of_eq e⟩⟩
      obtain ⟨v, h3, h4⟩ := h2.get e
      refine ⟨⟨us, v, h1, h3⟩, fun x H' y => ?_⟩
      obtain ⟨e1, e2⟩ := y
      subst e1
      have := e2 us h1
      rw [h3] at this; cases this
      exact ⟨hr, .refl, h4⟩⟩⟩
theorem rngD_get : ∀ (n : Nat) (lo : Int) (i : Nat) (d : D), (rngD lo n)[i]? = some d → i < n ∧ d = .int (lo + i)
  | 0, _, _, _, e => by simp [rngD] at e
  | n + 1, lo, 0, d, e => by simp [rngD] at e; subst e; exact ⟨Nat.succ_pos _, by simp⟩
  | n + 1, lo, i + 1, d, e => by
    obtain ⟨h1, h2⟩ := rngD_get n (lo + 1) i d (by simpa [rngD] using e)
    exact ⟨by omega, by rw [h2]; congr 1; push_cast; omega⟩
theorem rngD_length : ∀ (n : Nat) (lo : Int), (rngD lo n).length = n
  | 0, _ => rfl
  | n + 1, lo => by simp [rngD, rngD_length n]
theorem itr_later {K : Frag} {S1 : Hs} {H1 : Hp} {lo : Int} {n : Nat} {P : Addr → Prop} : Later K cx S1 H1 (fun _ _ => True) (ItG K cx (Itr lo n) (rngD lo n)) P := fun Pz hz S H σ' hr k _ i =>
  ⟨fun d e => by
    obtain ⟨h1, rfl⟩ := rngD_get hc n lo i d e
    refine ⟨h1, fun x H' y => ?_⟩
    obtain ⟨e1, e2⟩ := y
    subst e1 e2
    exact ⟨hr, .refl, rfl⟩, fun e => by rw [rngD_length hc] at e; exact Nat.le_of_eq e⟩
theorem walk_rng {a : R} {ea tg : Expr} {p pos : Pos} (hg : Gl X "range") (hm : X.mg "range" = none) (hs : starEach [ea] X.env = [(false, eval ea X.env)]) (ha : PE X ea (liftE X.K cx (wpE T c a))) :
    PI X tg (.Call (.Name "range" p) [ea] [] pos) (liftI X.K cx (.rng a) (wpI T c (.rng a))) :=
  piImp hc (pi_range1 hg hm (pa_cons ha pa_nil hs) hs) fun σ H R ⟨S, σ2, hr, rs, w⟩ => stepE hc hr rs w fun x S1 v H1 hr1 k1 rs1 r1 ⟨n, ex, h1, h2, w⟩ => by
    subst ex
    cases r1.1
    exact ⟨n, rfl, by omega, h1, w _ H1 hr1 k1 (itr_later hc)⟩
theorem walk_rng2 {a b : R} {ea eb tg : Expr} {p pos : Pos} (hg : Gl X "range") (hm : X.mg "range" = none) (hs : starEach [ea, eb] X.env = [(false, eval ea X.env), (false, eval eb X.env)]) (hs2 : starEach [eb] X.env = [(false, eval eb X.env)])
    (ha : PE X ea (liftE X.K cx (wpE T c a))) (hb : PE X eb (liftE X.K cx (wpE T c b))) :
    PI X tg (.Call (.Name "range" p) [ea, eb] [] pos) (liftI X.K cx (.rng2 a b) (wpI T c (.rng2 a b))) :=
  piImp hc (pi_range2 hg hm (pa_cons ha (pa_cons hb pa_nil hs2) (by rw [hs, hs2])) hs hs2) fun σ H R ⟨S, σ2, hr, rs, w⟩ => stepE hc hr rs w fun x S1 v H1 hr1 k1 rs1 r1 w => stepE hc hr1 rs1 w fun y S2 u H2 hr2 k2 rs2 r2 ⟨m, n, ex, ey, h, w'⟩ => by
    subst ex ey
    cases r1.1
    cases r2.1
    exact ⟨m, n, rfl, ⟨by omega, h.1, by omega, h.2.2.1⟩, w' _ H2 hr2 (k1.trans k2) (itr_later hc)⟩
end
end DL

/-! DL7c: sorted(d.items()), xs[::-1], list(range(n)), methods that read. -/
namespace DL
open PySem L2 PySem.Spec PyProof.Rows
section
variable {X : Cx} {T : Tbl} {c : Nat → List Vx → Hs → VK2 → Prop} {cx : Cls2} (hc : CalMono c)
include hc
omit hc in
theorem dic_pairs {K : Frag} {H : Hp} : ∀ {ps : List (Int × Int)} {ks : List (Key × V)}, DicR K H (ps.map fun p => (D.int p.1, D.int p.2)) ks → ks = ps.map L2.DX.entI
  | [], _, .nil => rfl
  | p :: ps, (k, v) :: ks, .cons h t => by
    have h1 : k = .inl p.1 := h.1
    have h2 : v = .int p.2 := h.2
    rw [dic_pairs t, h1, h2]; rfl
omit hc in
theorem pairs_rep {K : Frag} {H : Hp} : ∀ {ts : List Addr} {qs : List (Int × Int)}, Paired (fun (t : Addr) (q : Int × Int) => H t = some (.tup [.int q.1, .int q.2])) ts qs → RepL K H (qs.map pairD) (ts.map V.ref)
  | _, _, .nil => .nil
  | t :: ts, q :: qs, .cons h r => .cons ⟨t, _, rfl, SqT.of h, .cons rfl (.cons rfl .nil)⟩ (pairs_rep r)
theorem snd_sIt {e : R} {ee : Expr} {p apos cpos pos : Pos} (hcalm : X.calm = true) (hg : Gl X "sorted") (hm : X.mg "sorted" = none) (he : PE X ee (liftE X.K cx (wpE T c e)))
    (hbase : attributeBase ee "items" X.env (eval ee X.env) = eval ee X.env) (hline : (apos.endLine == cpos.line) = true) :
    PE X (.Call (.Name "sorted" p) [.Call (.Attribute ee "items" apos) [] [] cpos] [] pos) (liftE X.K cx (wpE T c (.sIt e))) :=
  peImp (L2.DX.pe_sItems hcalm hg hm he hbase hline) fun σ H Q ⟨S, σ2, hr, rs, w⟩ => stepE hc hr rs w fun x S1 v H1 hr1 k1 rs1 r1 w => by
    obtain ⟨cn, ⟨ps, rfl, hl, q⟩, hcn⟩ := view_of hr1 r1.1 w
    obtain ⟨a, ks, rfl, ha, rd⟩ := hcn
    have e := dic_pairs rd
    subst e
    refine ⟨a, ps, rfl, ha, hl, fun qs ts l H2 hp hs hg2 hn hl2 hpr => ?_⟩
    have k2 : Keep S1 S1 H1 H2 := ⟨fun b o e n => ⟨hg2 b o e, n⟩, fun b e => by
      cases q : H1 b with
      | none => rfl
      | some o => rw [hg2 b o q] at e; cases e⟩
    have hr2 : Rel X.K cx S1 H2 := fun b o e => by
      obtain ⟨h, z, _⟩ := (hr1 b o e).some
      exact RelO.keep (k2.tups hr1) ((hg2 b h z).trans z.symm) (hr1 b o e)
    obtain ⟨x, ex, q⟩ := q qs hp (hs.imp fun h => lex_lt h)
    cases ex
    exact q _ _ hr2 (k1.trans k2) ⟨⟨l, ts.map V.ref, rfl, hl2, hr1.free hn, pairs_rep hpr⟩, fun _ => ⟨l, rfl, k1.up l hn⟩⟩
theorem snd_rev {e : R} {ee : Expr} {k : Nat} {p1 p2 p3 pos : Pos} (he : PE X ee (liftE X.K cx (wpE T c e))) : PE X (.Subscript ee (.Slice none none (some (.UnaryOp .USub (.Constant (.int 1) k p1) p2)) p3) pos) (liftE X.K cx (wpE T c (.rev e))) :=
  peImp (pe_revL he) fun σ H Q ⟨S, σ2, hr, rs, w⟩ => stepE hc hr rs w fun x S1 v H1 hr1 k1 rs1 r1 w => by
    obtain ⟨cn, ⟨ds, rfl, q⟩, hcn⟩ := view_of hr1 r1.1 w
    obtain ⟨a, vs, rfl, ha, rv⟩ := hcn
    obtain ⟨x, ex, q⟩ := q
    cases ex
    have rr : ∀ {ds : List D} {vs : List V}, RepL X.K H1 ds vs → RepL X.K H1 ds.reverse vs.reverse := by
      intro ds
      induction ds with
      | nil => intro vs e; cases e; exact .nil
      | cons d ds ih =>
        rintro _ ⟨v, vr, rfl, r, rr⟩
        rw [List.reverse_cons, List.reverse_cons]
        exact RepL.append (ih rr) (.cons r .nil)
    exact ⟨a, vs, rfl, SqL.of ha, fun p n => fin_vl (KVof.of k1 q) hr1 (rr rv) p n⟩
omit hc in
theorem rgV_rep {K : Frag} {H : Hp} {n : Int} : RepL K H (rngD 0 n.toNat) (rgV 0 n) := by
  have key : ∀ (m : Nat) (lo : Int), RepL K H (rngD lo m) ((List.range m).map fun i => V.int (lo + (i : Nat))) := by
    intro m
    induction m with
    | zero => intro lo; exact .nil
    | succ m ih =>
      intro lo
      rw [List.range_succ_eq_map, List.map_cons]
      refine .cons (by show V.int (lo + ((0 : Nat) : Int)) = V.int lo; simp) ?_
      rw [List.map_map]
      have e : ((fun i : Nat => V.int (lo + (i : Nat))) ∘ Nat.succ) = fun i : Nat => V.int (lo + 1 + (i : Nat)) := by
        funext i
        show V.int (lo + ((i + 1 : Nat) : Int)) = _
        congr 1; push_cast; omega
      rw [e]
      exact ih (lo + 1)
  unfold rgV
  rw [show (n - 0).toNat = n.toNat by omega]
  exact key n.toNat 0
theorem snd_lrg {a : R} {ea : Expr} {p p2 pos2 pos : Pos} (hcalm : X.calm = true) (hg : Gl X "list") (hm : X.mg "list" = none) (hg2 : Gl X "range") (hm2 : X.mg "range" = none) (ha : PE X ea (liftE X.K cx (wpE T c a)))
    (na : starEach [ea] X.env = (false, eval ea X.env) :: starEach [] X.env) : PE X (.Call (.Name "list" p) [.Call (.Name "range" p2) [ea] [] pos2] [] pos) (liftE X.K cx (wpE T c (.lrg a))) :=
  peImp (pe_listRg hcalm hg hm (prg_1 hg2 hm2 ha na)) fun σ H Q ⟨S, σ2, hr, rs, w⟩ => stepE hc hr rs w fun x S1 v H1 hr1 k1 rs1 r1 ⟨n, ex, h1, h2, x', ex', q⟩ => by
    subst ex
    cases r1.1
    cases ex'
    exact ⟨n, rfl, ⟨by omega, by omega, by omega, by omega, by omega⟩, fun p n => fin_vl (KVof.of k1 q) hr1 rgV_rep p n⟩
omit hc in
theorem repL_ints {K : Frag} {H : Hp} : ∀ ns : List Int, RepL K H (ns.map D.int) (ns.map V.int)
  | [] => .nil
  | _ :: ns => .cons rfl (repL_ints ns)
theorem snd_setop {k : Bool} {a : R} {ea e : Expr} (hp : ∀ ta, PE X ea ta → PE X e (tSet2 X.K k ta)) (ha : PE X ea (liftE X.K cx (wpE T c a))) : PE X e (liftE X.K cx (wpE T c (.setop k a))) :=
  peImp (hp _ ha) fun σ H Q ⟨S, σ2, hr, rs, w⟩ => stepE hc hr rs w fun x S1 v H1 hr1 k1 rs1 r1 w => by
    obtain ⟨cn, ⟨ns, rfl, hl, q⟩, hcn⟩ := view_of hr1 r1.1 w
    obtain ⟨l, vs, rfl, hs, rv⟩ := hcn
    have e := rv.ints
    subst e
    refine ⟨l, ns, rfl, hs, hl, fun ms m1 m2 m3 => ⟨fun hk p hn => ?_, fun hk => ?_⟩⟩
    · obtain ⟨x, ex, q⟩ := q ms m1 m2 m3
      rw [if_pos hk] at ex
      cases ex
      exact fin_vl (KVof.of k1 q) hr1 (repL_ints ms) p hn
    · obtain ⟨x, ex, q⟩ := q ms m1 m2 m3
      rw [if_neg (by rw [hk]; exact Bool.false_ne_true)] at ex
      cases ex
      exact fin_int (KVof.of k1 q) hr1
omit hc in
theorem repL_flat {K : Frag} {H : Hp} : ∀ {ds : List D} {vs : List V} {j : Nat} {d : D}, RepL K H ds vs → ds[j]? = some d → ∃ v, vs[j]? = some v ∧ RepV K H d v := fun r e => r.get e
theorem snd_index {o a : R} {eo ea e : Expr} (hp : ∀ to t, PE X eo to → PA X [ea] t → PE X e (tBM X.K "list" (rIndex X.K) to t)) (hs : starEach [ea] X.env = [(false, eval ea X.env)]) (ho : PE X eo (liftE X.K cx (wpE T c o))) (ha : PE X ea (liftE X.K cx (wpE T c a))) :
    PE X e (liftE X.K cx (wpE T c (.bm1 .index o a))) :=
  peImp (hp _ _ ho (pa_cons ha pa_nil hs)) fun σ H Q ⟨S, σ2, hr, rs, w⟩ => stepE hc hr rs w fun x S1 v H1 hr1 k1 rs1 r1 ⟨ty, w⟩ => by
    obtain ⟨cn, ⟨ds0, rfl⟩, hcn⟩ := view_of hr1 r1.1 ty
    obtain ⟨l0, vs0, rfl, h0, _⟩ := hcn
    refine ⟨.inl ⟨rfl, vs0, SqL.of h0⟩, stepE hc hr1 rs1 w fun y S2 u H2 hr2 k2 rs2 r2 w => ?_⟩
    obtain ⟨cn, ⟨ds, yd, j, z, rfl, rfl, f1, f2, g1, g2, g3, x', ex, q⟩, hcn⟩ := view_of hr2 (r1.1.keep k2 hr1) w
    obtain ⟨l, vs, e, hl, rv⟩ := hcn
    cases e
    cases ex
    have ru : RepV X.K H2 yd u := r2.1
    obtain ⟨zv, hz, rz⟩ := rv.get g1
    have fz : flatD z = true := List.all_eq_true.mp f2 z (List.mem_of_getElem? g1)
    refine ⟨l0, vs, u, j, zv, rfl, rfl, SqL.of hl, flat_rel f1 ru, flats_rel f2 rv, hz, by rw [eqV_eqB fz f1 rz ru]; exact g2, fun m z' hm hz' => ?_, fin_int (KVof.of (k1.trans k2) q) hr2⟩
    have hmd : m < ds.length := by rw [rv.length]; exact (List.getElem?_eq_some_iff.mp hz').1
    obtain ⟨zv', hz2, rz2⟩ := rv.get (List.getElem?_eq_getElem hmd)
    rw [hz'] at hz2
    cases hz2
    have fz2 : flatD ds[m] = true := List.all_eq_true.mp f2 _ (List.getElem_mem hmd)
    rw [eqV_eqB fz2 f1 rz2 ru]
    exact g3 m _ hm (List.getElem?_eq_getElem hmd)
theorem snd_count {o a : R} {eo ea e : Expr} (hp : ∀ to t, PE X eo to → PA X [ea] t → PE X e (tBM X.K "list" (rCntI X.K) to t)) (hs : starEach [ea] X.env = [(false, eval ea X.env)]) (ho : PE X eo (liftE X.K cx (wpE T c o))) (ha : PE X ea (liftE X.K cx (wpE T c a))) :
    PE X e (liftE X.K cx (wpE T c (.bm1 .count o a))) :=
  peImp (hp _ _ ho (pa_cons ha pa_nil hs)) fun σ H Q ⟨S, σ2, hr, rs, w⟩ => stepE hc hr rs w fun x S1 v H1 hr1 k1 rs1 r1 ⟨ty, w⟩ => by
    obtain ⟨cn, ⟨ds0, rfl⟩, hcn⟩ := view_of hr1 r1.1 ty
    obtain ⟨l0, vs0, rfl, h0, _⟩ := hcn
    refine ⟨.inl ⟨rfl, vs0, SqL.of h0⟩, stepE hc hr1 rs1 w fun y S2 u H2 hr2 k2 rs2 r2 w => ?_⟩
    obtain ⟨cn, ⟨ns, k, rfl, rfl, x', ex, q⟩, hcn⟩ := view_of hr2 (r1.1.keep k2 hr1) w
    obtain ⟨l, vs, e, hl, rv⟩ := hcn
    cases e
    cases ex
    have e2 := rv.ints
    subst e2
    obtain rfl : u = .int k := r2.1
    exact ⟨l0, ns, k, rfl, rfl, SqL.of hl, fin_int (KVof.of (k1.trans k2) q) hr2⟩
omit hc in
theorem strs_rep {K : Frag} {H : Hp} : ∀ {zs : List (List Nat)} {vs : List V}, RepL K H (zs.map D.str) vs → vs = (zs.map sv).map V.str
  | [], _, e => e
  | z :: zs, _, ⟨v, vr, e, r, rr⟩ => by subst e; cases r; rw [strs_rep rr]; rfl
omit hc in
theorem strs_of {K : Frag} {H : Hp} : ∀ (ys : List Str), RepL K H ((ys.map fun z => z.cps.toList).map D.str) (ys.map V.str)
  | [] => .nil
  | y :: ys => .cons (by show V.str y = V.str (sv y.cps.toList); congr 1) (strs_of ys)
omit hc in
theorem sv_cps (y : Str) : sv y.cps.toList = y := by show (⟨y.cps.toList.toArray⟩ : Str) = y; simp
theorem snd_join {o a : R} {eo ea : Expr} {apos pos : Pos} (hs : starEach [ea] X.env = [(false, eval ea X.env)]) (hbase : attributeBase eo "join" X.env (eval eo X.env) = eval eo X.env) (hline : (apos.endLine == pos.line) = true) (ho : PE X eo (liftE X.K cx (wpE T c o))) (ha : PE X ea (liftE X.K cx (wpE T c a))) :
    PE X (.Call (.Attribute eo "join" apos) [ea] [] pos) (liftE X.K cx (wpE T c (.bm1 .join o a))) :=
  peImp (pe_join ho ha hs hbase hline) fun σ H Q ⟨S, σ2, hr, rs, w⟩ => stepE hc hr rs w fun x S1 v H1 hr1 k1 rs1 r1 ⟨ty, w⟩ => by
    have isS : ∃ s, x = .d (.str s) := by
      cases x with
      | d y => cases y <;> first | exact ⟨_, rfl⟩ | exact ty.elim
      | _ => exact ty.elim
    obtain ⟨s, rfl⟩ := isS
    cases r1.1
    refine ⟨⟨_, rfl⟩, stepE hc hr1 rs1 w fun y S2 u H2 hr2 k2 rs2 r2 w => ?_⟩
    obtain ⟨cn, ⟨s', zs, e1, rfl, hz, x', ex, q⟩, hcn⟩ := view_of hr2 r2.1 w
    cases e1
    cases ex
    obtain ⟨l, vs, rfl, hl, rv⟩ := hcn
    have e2 := strs_rep rv
    subst e2
    refine ⟨_, l, zs.map sv, rfl, rfl, .inl (SqL.of hl), ?_, ?_⟩
    · rw [List.map_map, List.length_map, sv_length]
      have : (List.map (Str.length ∘ sv) zs) = zs.map List.length := List.map_congr_left fun z _ => sv_length z
      rw [show (List.map ((fun x => x.length) ∘ sv) zs) = zs.map List.length from this]
      exact hz
    · have := fin_d (KVof.of (k1.trans k2) q) hr2 (v := .str (sv (joinD s zs))) rfl
      unfold joinD at this
      rw [sv_cps] at this
      exact this
theorem snd_split {o a : R} {eo ea : Expr} {apos pos : Pos} (hs : starEach [ea] X.env = [(false, eval ea X.env)]) (hbase : attributeBase eo "split" X.env (eval eo X.env) = eval eo X.env) (hline : (apos.endLine == pos.line) = true) (ho : PE X eo (liftE X.K cx (wpE T c o))) (ha : PE X ea (liftE X.K cx (wpE T c a))) :
    PE X (.Call (.Attribute eo "split" apos) [ea] [] pos) (liftE X.K cx (wpE T c (.bm1 .split o a))) :=
  peImp (pe_split ho ha hs hbase hline) fun σ H Q ⟨S, σ2, hr, rs, w⟩ => stepE hc hr rs w fun x S1 v H1 hr1 k1 rs1 r1 ⟨ty, w⟩ => by
    have isS : ∃ s, x = .d (.str s) := by
      cases x with
      | d y => cases y <;> first | exact ⟨_, rfl⟩ | exact ty.elim
      | _ => exact ty.elim
    obtain ⟨s, rfl⟩ := isS
    cases r1.1
    refine ⟨⟨_, rfl⟩, stepE hc hr1 rs1 w fun y S2 u H2 hr2 k2 rs2 r2 ⟨s', t, e1, e2, h0, hz, x', ex, q⟩ => ?_⟩
    cases e1
    subst e2
    cases r2.1
    cases ex
    refine ⟨_, _, rfl, rfl, ?_, by rw [sv_length]; exact hz, fun p n => ?_⟩
    · rw [sv_length]
      cases t with
      | nil => exact (h0 rfl).elim
      | cons c t => rfl
    · exact fin_vl (KVof.of (k1.trans k2) q) hr2 (strs_of _) p n
theorem snd_upper {o : R} {eo : Expr} {apos pos : Pos} (hbase : attributeBase eo "upper" X.env (eval eo X.env) = eval eo X.env) (hline : (apos.endLine == pos.line) = true) (ho : PE X eo (liftE X.K cx (wpE T c o))) :
    PE X (.Call (.Attribute eo "upper" apos) [] [] pos) (liftE X.K cx (wpE T c (.upper o))) :=
  peImp (pe_upper ho hbase hline) fun σ H Q ⟨S, σ2, hr, rs, w⟩ => stepE hc hr rs w fun x S1 v H1 hr1 k1 rs1 r1 ⟨s, ex, hz, x', ex', q⟩ => by
    subst ex
    cases r1.1
    cases ex'
    refine ⟨⟨_, rfl⟩, _, rfl, rfl, by rw [sv_length]; omega, ?_⟩
    have := fin_d (KVof.of k1 q) hr1 (v := .str (sv (upD s))) rfl
    unfold upD at this
    rw [sv_cps] at this
    exact this
end
end DL

/-! DL9: enumerate, zip; targets; comprehensions. -/
namespace DL
open PySem L2 PySem.Spec PyProof.Rows
/-- enumerate(tuple) -/
def IteT (K : PySem.W.Frag) (a : Addr) : It :=
  ⟨fun i H => ∃ (xs : List V) (x : V), SqT K H a xs ∧ xs[i]? = some x, fun i H v H' => ∃ T x, v = .ref T ∧ H T = none ∧ H' = upd H T (.tup [.int (i : Nat), x]) ∧ ∀ xs, SqT K H a xs → xs[i]? = some x, fun i H => ∃ xs : List V, SqT K H a xs ∧ xs.length = i⟩
theorem turn_enumT {P : Program} {w : World} {K : PySem.W.Frag} {elts : List Expr} {kk : Nat} {tpos : Pos} (a e it : Addr) :
    Turn P w K (.Tuple elts kk tpos) (IteT K a) [e, it] e (fun i h => (∃ old, IsEnum h e it ((i : Nat) : Int) old) ∧ h.IsTupleIter it a i ∧ e ≠ it) where
  mem := by simp
  obj := fun i h st b hb => by
    obtain ⟨⟨old, he⟩, ⟨o, ho, hc, hd⟩, _⟩ := st
    have e' : b = e ∨ b = it := by simpa using hb
    rcases e' with z | z
    · rw [z]; exact ⟨_, he, fun v q => nomatch q⟩
    · rw [z]; exact ⟨o, ho, fun v q => by rw [hd] at q; cases q⟩
  keep := fun i h h' st k => let ⟨⟨old, he⟩, hi, hne⟩ := st; ⟨⟨old, k e (by simp) _ he⟩, hi.at fun o q => k it (by simp) o q, hne⟩
  item := by
    intro X hP hw hK hc i pins s σ H E I hf st hg
    subst hP hw hK
    obtain ⟨⟨old, he⟩, hit, hne⟩ := st
    obtain ⟨xs, x, hq, hx⟩ := hg
    obtain ⟨its, rv, p, hz⟩ := I.tuple hq
    obtain ⟨u, hu, ru⟩ := rv.get hx
    have hel : e < s.heap.objs.size := Heap.lt_size he
    have hil : it < s.heap.objs.size := by obtain ⟨_, q, _⟩ := hit; exact Heap.lt_size q
    have hae : a ≠ it := fun z => by
      subst z
      obtain ⟨o, q, c, d⟩ := hit
      obtain ⟨o', q', c', _⟩ := p
      rw [q] at q'; cases q'
      rw [c] at c'
      exact absurd c' (by decide +kernel)
    have hee : a ≠ e := fun z => by
      subst z
      obtain ⟨o', q', c', _⟩ := p
      rw [he] at q'; cases q'
      have c'' : Value.type "enumerate" = Value.type "tuple" := c'
      exact absurd c'' (by decide +kernel)
    have hlen : i < its.toArray.size := by
      have := (List.getElem?_eq_some_iff.mp hu).1
      simpa using this
    refine wpAny_pyNext_enum_itemD (Draws.tuple (prog := X.prog) (w := X.w) (A := X.A.in1) (show X.A.in1.handled = none from I.ok.hd hc) it a hae its.toArray) he ⟨hit, (show s.heap.IsTuple a its.toArray from p)⟩ hlen hne (by simp [hne, Ne.symm hee]) fun u' h' tk hP ho hst' hT hsz hk => ?_
    have eu : u' = u := by
      have hP : its.toArray[i]? = some u' := hP
      have hu2 : its.toArray[i]? = some u := by simpa using hu
      rw [hu2] at hP
      exact (Option.some.inj hP).symm
    subst eu
    refine ⟨_, rfl, wpAny_letOwnedTupleGo_enum (s := { s with heap := h', toks := tk + 1 }) ho fun h'' he' sb => ?_⟩
    have hT2 : h''.get? s.heap.objs.size = some { cls := .type "tuple", data := .seq #[.int i tk, u'] } := (sb.2 _ (Nat.ne_of_gt hel)).trans hT
    have new : ObjOk X.prog X.w (upd H s.heap.objs.size (.tup [.int (i : Nat), x])) h'' s.heap.objs.size (.tup [.int (i : Nat), x]) :=
      ⟨by show 2 ≤ sizeLine; decide, [.int i tk, u'], .cons ⟨_, rfl⟩ (.cons ru .nil), ⟨_, hT2, rfl, _, rfl⟩⟩
    have I1 : Inv X pins σ (upd H s.heap.objs.size (.tup [.int (i : Nat), x])) { s with heap := h'', toks := tk + 1 } :=
      I.turnedNew (ch := [e, it]) (fun b ob hb q => (sb.2 b (fun z => hb (by simp [z]))).trans (hk b ob (fun z => hb (by simp [z])) (fun z => hb (by simp [z])) q)) hf (Nat.le_refl _) new
    refine ⟨.ref s.heap.objs.size, _, I1, rfl, ⟨_, x, rfl, I.hok.fresh (Nat.le_refl _), rfl, fun ys hy => by rw [I.tuple_inj hy hq]; exact hx⟩, ⟨⟨u', ?_⟩, hst'.1.at fun o q => (sb.2 it (Ne.symm hne)).trans q, hne⟩, fun b hb => ?_⟩
    · have e1 : ((i + 1 : Nat) : Int) = (i : Int) + 1 := by omega
      rw [e1]; exact he'
    · have hb' : b < s.heap.objs.size := by
        have e' : b = e ∨ b = it := by simpa using hb
        rcases e' with z | z
        · rw [z]; exact hel
        · rw [z]; exact hil
      rw [upd_ne (Nat.ne_of_lt hb')]
      exact (hf b hb).1
  done := by
    intro X hP hw hK hc i pins s σ H E I hf st hg
    subst hP hw hK
    obtain ⟨⟨old, he⟩, hit, hne⟩ := st
    obtain ⟨xs, hq, hx⟩ := hg
    obtain ⟨its, rv, p, hz⟩ := I.tuple hq
    obtain ⟨f0, f1, f2, f3, f4, f5⟩ := hf it (by simp)
    have hl := rv.length
    have hae : a ≠ it := fun z => by
      subst z
      obtain ⟨o, q, c, d⟩ := hit
      obtain ⟨o', q', c', _⟩ := p
      rw [q] at q'; cases q'
      rw [c] at c'
      exact absurd c' (by decide +kernel)
    have hs : its.toArray.size = i := by rw [List.size_toArray, ← hl]; exact hx
    refine wpAny_pyNext_enum_endD (Draws.tuple (prog := X.prog) (w := X.w) (A := X.A.in1) (show X.A.in1.handled = none from I.ok.hd hc) it a hae its.toArray) he ⟨by rw [hs]; exact hit, (show s.heap.IsTuple a its.toArray from p)⟩ fun h' eb => ⟨rfl, I.turned (t' := s.toks) (fun b o hb q => eb b o hb q) f0 f1 f3 f4 f5⟩
  self := fun A i s Q E st h => let ⟨⟨_, he⟩, _⟩ := st; wpAny_pyIter_enum he h

theorem meets_enumT {v : Value} {o : Obj} {H : Heap → Prop} (B : Begins v o H) :
    Meets (Builtin.«enumerate.__new__» ⟨[.type "enumerate", v], []⟩) (fun _ R s => H s.heap ∧
      R (.ok (.ret (.ref (s.heap.push o).objs.size))) { s with heap := (s.heap.push o).push { cls := .type "enumerate", data := .fields #[.none, .bool false, .ref s.heap.objs.size, rawInt 0, .none, .none] } }) :=
  .of_wp fun prog w A R s h => by
    obtain ⟨hp, g, d, tk, os⟩ := s; obtain ⟨h1, h⟩ := h
    have hsub := sub_enumerate
    have q1 : ∀ {A' : Around} {E : Value → Shared → Prop} {Q : Value → Shared → Prop}, Q (.ref hp.objs.size) ⟨hp.push o, g, d, tk, os⟩ → wpAny (model prog w) A' (pyIter v) Q E ⟨hp, g, d, tk, os⟩ :=
      fun q => B.iter prog w _ _ ⟨hp, g, d, tk, os⟩ _ h1 q
    wp_walk using q1
    refine wpAny_stack_any fun st => wpAny_pure ?_
    split
    · rename_i c _ _ _ _ _
      cases (c == Value.type "enumerate")
      · wp_walk using q1
        exact ⟨_, rfl, h⟩
      · wp_walk using q1
        exact ⟨_, rfl, h⟩
    · wp_walk using q1
      exact ⟨_, rfl, h⟩
theorem call_enumT {prog : Program} {w : World} {A : Around} {E : Value → Shared → Prop} {s : Shared} {v : Value} {o : Obj} {H : Heap → Prop} {Q : Value → Shared → Prop} (B : Begins v o H) (h1 : H s.heap)
    (h : ∀ h', IsEnum h' (s.heap.objs.size + 1) s.heap.objs.size 0 .none → h'.get? s.heap.objs.size = some o → h'.objs.size = s.heap.objs.size + 2 →
      (∀ b o, s.heap.get? b = some o → h'.get? b = some o) → Q (.ref (s.heap.objs.size + 1)) { s with heap := h' }) :
    wpAny (model prog w) A (call (.type "enumerate") [v]) Q E s := by
  refine callType_new F.called_enumerate (by decide) (F.typeCall_enumerate_1 _) (F.newCall_enumerate_1 _) (fun obj => F.args_object_init_2 obj _) F.entry_enumerate_new
    (meets_enumT B) ⟨h1, ?_⟩
  have hz : (s.heap.push o).objs.size = s.heap.objs.size + 1 := Heap.size_push ..
  show _ ∧ _
  rw [hz]
  have he : IsEnum ((s.heap.push o).push { cls := .type "enumerate", data := .fields #[.none, .bool false, .ref s.heap.objs.size, rawInt 0, .none, .none] }) (s.heap.objs.size + 1) s.heap.objs.size 0 .none := by
    have := Heap.get?_push_size (s.heap.push o) (o := { cls := .type "enumerate", data := .fields #[.none, .bool false, .ref s.heap.objs.size, rawInt 0, .none, .none] }) rfl
    rw [hz] at this; exact this
  refine ⟨⟨_, he, rfl⟩, h _ he (Heap.get?_push_of_some _ (Heap.get?_push_size _ B.free)) (by rw [Heap.size_push, hz]) fun b o x => Heap.get?_push_of_some _ (Heap.get?_push_of_some _ x)⟩
def iEnumA (K : Frag) (ta : TA) : TI := fun σ H R => ta σ H fun vs H1 => ∃ a, vs = [.ref a] ∧ (((∃ xs, SqL K H1 a xs) ∧ R (Ite K a) H1) ∨ ((∃ xs, SqT K H1 a xs) ∧ R (IteT K a) H1))
theorem pi_enumA {X : Cx} {e : Expr} {ta : TA} {p pos tpos : Pos} {elts : List Expr} {kk : Nat} (hg : Gl X "enumerate") (hm : X.mg "enumerate" = none) (ha : PA X [e] ta) (hs : starEach [e] X.env = [(false, eval e X.env)]) :
    PI X (.Tuple elts kk tpos) (.Call (.Name "enumerate" p) [e] [] pos) (iEnumA X.K ta) := by
  refine ⟨fun pins s σ H R I h => ?_⟩
  refine Call_ (ld_blt I hg hm boot_enumerate (PyProof.Rows.callWith_type1 (thn (ha.run pos pins s σ H _ I h) fun us s1 ⟨vs, H1, I1, r1, q1⟩ => ?_) hs rfl))
  obtain ⟨a, ex, q⟩ := q1
  subst ex
  cases r1 with
  | cons r rr =>
    cases rr
    cases r
    have fp2 : ∀ b ∈ [s1.heap.objs.size + 1, s1.heap.objs.size], FpOk X pins H1 b := fun b hb => by
      have e' : b = s1.heap.objs.size + 1 ∨ b = s1.heap.objs.size := by simpa using hb
      have hle : s1.heap.objs.size ≤ b := by
        rcases e' with z | z
        · rw [z]; exact Nat.le_add_right _ _
        · rw [z]; exact Nat.le_refl _
      exact I1.fpOk hle (I1.hok.fresh hle)
    rcases q with ⟨⟨xs, hq⟩, q⟩ | ⟨⟨xs, hq⟩, q⟩
    · obtain ⟨its, rv, p', hz⟩ := I1.list hq
      refine call_enumerate_list p'.isList fun h' he hit hsz hk => wpAny_pyIter_enum he ?_
      have I2 : Inv X pins σ H1 { s1 with heap := h' } := I1.kept (t' := s1.toks) hk
      exact ⟨s1.heap.objs.size + 1, [s1.heap.objs.size + 1, s1.heap.objs.size], _, _, H1, rfl, I2, turn_enum a (s1.heap.objs.size + 1) s1.heap.objs.size, ⟨⟨.none, he⟩, hit, Nat.succ_ne_self _⟩, fp2, q⟩
    · obtain ⟨its, rv, p', hz⟩ := I1.tuple hq
      refine call_enumT (begins_tuple a its.toArray) (show s1.heap.IsTuple a its.toArray from p') fun h' he hit hsz hk => wpAny_pyIter_enum he ?_
      have I2 : Inv X pins σ H1 { s1 with heap := h' } := I1.kept (t' := s1.toks) hk
      exact ⟨s1.heap.objs.size + 1, [s1.heap.objs.size + 1, s1.heap.objs.size], _, _, H1, rfl, I2, turn_enumT a (s1.heap.objs.size + 1) s1.heap.objs.size, ⟨⟨.none, he⟩, ⟨_, hit, rfl, rfl⟩, Nat.succ_ne_self _⟩, fp2, q⟩
theorem enumD_get : ∀ (ds : List D) (n i : Nat) (d : D), (enumD n ds)[i]? = some d → ∃ x, ds[i]? = some x ∧ d = .tup [.int ((n + i : Nat) : Int), x]
  | [], _, _, _, e => by simp [enumD] at e
  | a :: as, n, 0, d, e => ⟨a, rfl, by simp [enumD] at e; exact e.symm⟩
  | a :: as, n, i + 1, d, e => by
    obtain ⟨x, h1, h2⟩ := enumD_get as (n + 1) i d (by simpa [enumD] using e)
    refine ⟨x, by simpa using h1, ?_⟩
    rw [h2]
    have : n + 1 + i = n + (i + 1) := by omega
    rw [this]
theorem enumD_length : ∀ (ds : List D) (n : Nat), (enumD n ds).length = ds.length
  | [], _ => rfl
  | a :: as, n => by simp [enumD, enumD_length as]
theorem zipD_get : ∀ (as bs : List D) (i : Nat) (d : D), (zipD as bs)[i]? = some d → ∃ x y, as[i]? = some x ∧ bs[i]? = some y ∧ d = .tup [x, y]
  | [], _, _, _, e => by simp [zipD] at e
  | a :: as, [], _, _, e => by simp [zipD] at e
  | a :: as, b :: bs, 0, d, e => ⟨a, b, rfl, rfl, by simp [zipD] at e; exact e.symm⟩
  | a :: as, b :: bs, i + 1, d, e => by
    obtain ⟨x, y, h1, h2, h3⟩ := zipD_get as bs i d (by simpa [zipD] using e)
    exact ⟨x, y, by simpa using h1, by simpa using h2, h3⟩
theorem zipD_length : ∀ (as bs : List D), (zipD as bs).length = min as.length bs.length
  | [], _ => by simp [zipD]
  | a :: as, [] => by simp [zipD]
  | a :: as, b :: bs => by simp [zipD, zipD_length as bs]
section
variable {K : Frag} {cx : Cls2} {S S1 S2 : Hs} {H H1 H2 : Hp}
theorem pair_new {H : Hp} {T : Addr} {x y : V} {d e : D} (hr : Rel K cx S H) (n : H T = none) (rx : RepV K H d x) (ry : RepV K H e y) :
    Rel K cx S (upd H T (.tup [x, y])) ∧ Keep S S H (upd H T (.tup [x, y])) ∧ RepV K (upd H T (.tup [x, y])) (.tup [d, e]) (.ref T) := by
  have t := tupS_new (K := K) (h := .tup [x, y]) n
  exact ⟨hr.upd0 (hr.free n) t, Keep.new n, T, [x, y], rfl, SqT.of upd_same, .cons (RepV.keep t _ _ rx) (.cons (RepV.keep t _ _ ry) .nil)⟩
theorem Later.keep {ok : Sl → Hs → Prop} {G : Hs → Hp → Prop} {P : Addr → Prop} (k : Keep S1 S2 H1 H2) (l : Later K cx S1 H1 ok G P) : Later K cx S2 H2 ok G P := fun Pz hz S H σ' hr kk o =>
  l (fun b => S1 b = none ∧ H1 b ≠ none ∧ P b) (fun b a c d => ⟨a, c, d⟩) S H σ' hr (fun b ⟨a, c, d⟩ => by
    cases q : H1 b with
    | none => exact (c q).elim
    | some o =>
      obtain ⟨h1, h2⟩ := k.kp b o q a
      obtain ⟨h3, h4⟩ := kk b (hz b h2 (by rw [h1]; simp) d)
      exact ⟨h3, by rw [h4, h1]⟩) o
theorem Later.weak {ok ok' : Sl → Hs → Prop} {G : Hs → Hp → Prop} {P P' : Addr → Prop} (hP : ∀ b, P b → P' b) (ho : ∀ σ S, ok' σ S → ok σ S) (l : Later K cx S1 H1 ok G P) : Later K cx S1 H1 ok' G P' := fun Pz hz S H σ' hr kk o =>
  l Pz (fun b a c d => hz b a c (hP b d)) S H σ' hr kk (ho _ _ o)
end
section
variable {X : Cx} {T : Tbl} {c : Nat → List Vx → Hs → VK2 → Prop} {cx : Cls2} (hc : CalMono c)
include hc
theorem walk_enu {it : R} {ea : Expr} {elts : List Expr} {kk : Nat} {p pos tpos : Pos} (hg : Gl X "enumerate") (hm : X.mg "enumerate" = none) (hs : starEach [ea] X.env = [(false, eval ea X.env)])
    (h : PE X ea (liftSrc X.K cx it (wpI T c it))) : PI X (.Tuple elts kk tpos) (.Call (.Name "enumerate" p) [ea] [] pos) (liftI X.K cx (.enu it) (wpI T c (.enu it))) :=
  piImp hc (pi_enumA hg hm (pa_cons h pa_nil hs) hs) fun σ H R ⟨S, σ2, hr, rs, w⟩ => ⟨S, σ2, hr, rs, wpI_mono hc w fun J2 S1 q a H1 hr1 k1 src => ⟨a, rfl, by
    rcases src with ⟨_, ⟨vs, h⟩, lt⟩ | ⟨_, ⟨vs, h⟩, lt⟩
    · refine .inl ⟨⟨vs, h⟩, q (Ite X.K a) H1 hr1 k1 fun Pz hz S H σ' hr k ok i => ?_⟩
      obtain ⟨us, h1, h2⟩ := lt Pz hz S H σ' hr k ok
      refine ⟨fun d e => ?_, fun e => ⟨us, h1, by rw [← h2.length, ← enumD_length J2.items 0]; exact Nat.le_of_eq e⟩⟩
      obtain ⟨x, e1, rfl⟩ := enumD_get _ _ _ _ e
      obtain ⟨v, h3, h4⟩ := h2.get e1
      refine ⟨⟨us, v, h1, h3⟩, fun x' H' y => ?_⟩
      obtain ⟨Tt, v', rfl, n, rfl, y⟩ := y
      have := y us h1
      rw [h3] at this; cases this
      rw [Nat.zero_add]
      exact pair_new hr n rfl h4
    · refine .inr ⟨⟨vs, h⟩, q (IteT X.K a) H1 hr1 k1 fun Pz hz S H σ' hr k ok i => ?_⟩
      obtain ⟨us, h1, h2⟩ := lt Pz hz S H σ' hr k ok
      refine ⟨fun d e => ?_, fun e => ⟨us, h1, by rw [← h2.length, ← enumD_length J2.items 0]; exact e⟩⟩
      obtain ⟨x, e1, rfl⟩ := enumD_get _ _ _ _ e
      obtain ⟨v, h3, h4⟩ := h2.get e1
      refine ⟨⟨us, v, h1, h3⟩, fun x' H' y => ?_⟩
      obtain ⟨Tt, v', rfl, n, rfl, y⟩ := y
      have := y us h1
      rw [h3] at this; cases this
      rw [Nat.zero_add]
      exact pair_new hr n rfl h4⟩⟩
theorem walk_zip {it it' : R} {ea eb : Expr} {elts : List Expr} {kk : Nat} {p pos tpos : Pos} (hg : Gl X "zip") (hm : X.mg "zip" = none) (hs : starEach [ea, eb] X.env = (false, eval ea X.env) :: starEach [eb] X.env) (hpl : (backTo pos (starEach [eb] X.env)).any (·.1) = false) (hs2 : starEach [eb] X.env = [(false, eval eb X.env)])
    (h : PE X ea (liftSrc X.K cx it (wpI T c it))) (h' : PE X eb (liftSrc X.K cx it' (wpI T c it'))) : PI X (.Tuple elts kk tpos) (.Call (.Name "zip" p) [ea, eb] [] pos) (liftI X.K cx (.zip it it') (wpI T c (.zip it it'))) :=
  piImp hc (RZ.pi_zipA hg hm (pa_cons h (pa_cons h' pa_nil hs2) hs) hs hpl) fun σ H R ⟨S, σ2, hr, rs, w⟩ => ⟨S, σ2, hr, rs, wpI_mono hc w fun J2 S1 w a H1 hr1 k1 src => ⟨S1, σ2, hr1, rs.keep k1 hr, wpI_mono hc w fun J3 S2 ⟨tu, ok, q⟩ b H2 hr2 k2 src' => by
    have P1 : ∀ b, (OwnA σ2 σ b → srcA it σ2 σ b) → (OwnA σ2 σ b → srcA (.zip it it') σ2 σ b) := fun b z o => .inl (z o)
    have P2 : ∀ b, (OwnA σ2 σ b → srcA it' σ2 σ b) → (OwnA σ2 σ b → srcA (.zip it it') σ2 σ b) := fun b z o => .inr (z o)
    rcases src with ⟨t1, _, lt⟩ | ⟨t1, _, lt⟩
    · rcases src' with ⟨t2, ⟨vs', h'⟩, lt'⟩ | ⟨t2, _, _⟩
      · have lt := lt.keep k2
        obtain ⟨vs, hv, _⟩ := lt (fun b => S2 b = none ∧ H2 b ≠ none) (fun b z1 z2 _ => ⟨z1, z2⟩) S2 H2 σ2 hr2 (fun b z => ⟨z.1, rfl⟩) ok
        refine ⟨a, b, vs, vs', rfl, .inl ⟨hv, h', q (L2.Itz X.K a b) H2 hr2 (k1.trans k2) fun Pz hz S H σ' hr k ok' i => ?_⟩⟩
        obtain ⟨us, h1, h2⟩ := (lt.weak P1 (fun _ _ z => z)) Pz hz S H σ' hr k ok'.1
        obtain ⟨ws, g1, g2⟩ := (lt'.weak P2 (fun _ _ z => z)) Pz hz S H σ' hr k ok'.2
        refine ⟨fun d e => ?_, fun e => ⟨us, ws, h1, g1, by rw [zipD_length] at e; rw [← h2.length, ← g2.length]; omega⟩⟩
        obtain ⟨x, y, e1, e2, rfl⟩ := zipD_get _ _ _ _ e
        obtain ⟨v, h3, h4⟩ := h2.get e1
        obtain ⟨u, g3, g4⟩ := g2.get e2
        refine ⟨⟨us, ws, v, u, h1, g1, h3, g3⟩, fun x' H' y => ?_⟩
        obtain ⟨Tt, v', u', rfl, n, rfl, y1, y2⟩ := y
        have e3 := y1 us h1
        have e4 := y2 ws g1
        rw [h3] at e3; cases e3
        rw [g3] at e4; cases e4
        exact pair_new hr n h4 g4
      · rw [t1, t2] at tu; cases tu
    · rcases src' with ⟨t2, _, _⟩ | ⟨t2, ⟨vs', h'⟩, lt'⟩
      · rw [t1, t2] at tu; cases tu
      · have lt := lt.keep k2
        obtain ⟨vs, hv, _⟩ := lt (fun b => S2 b = none ∧ H2 b ≠ none) (fun b z1 z2 _ => ⟨z1, z2⟩) S2 H2 σ2 hr2 (fun b z => ⟨z.1, rfl⟩) ok
        refine ⟨a, b, vs, vs', rfl, .inr ⟨hv, h', q (RZ.ItzT X.K a b) H2 hr2 (k1.trans k2) fun Pz hz S H σ' hr k ok' i => ?_⟩⟩
        obtain ⟨us, h1, h2⟩ := (lt.weak P1 (fun _ _ z => z)) Pz hz S H σ' hr k ok'.1
        obtain ⟨ws, g1, g2⟩ := (lt'.weak P2 (fun _ _ z => z)) Pz hz S H σ' hr k ok'.2
        refine ⟨fun d e => ?_, fun e => ⟨us, ws, h1, g1, by rw [zipD_length] at e; rw [← h2.length, ← g2.length]; omega⟩⟩
        obtain ⟨x, y, e1, e2, rfl⟩ := zipD_get _ _ _ _ e
        obtain ⟨v, h3, h4⟩ := h2.get e1
        obtain ⟨u, g3, g4⟩ := g2.get e2
        refine ⟨⟨us, ws, v, u, h1, g1, h3, g3⟩, fun x' H' y => ?_⟩
        obtain ⟨Tt, v', u', rfl, n, rfl, y1, y2⟩ := y
        have e3 := y1 us h1
        have e4 := y2 ws g1
        rw [h3] at e3; cases e3
        rw [g3] at e4; cases e4
        exact pair_new hr n h4 g4⟩⟩
end
end DL

/-! DL10: targets; comprehensions. -/
namespace DL
open PySem L2 PySem.Spec PyProof.Rows
def Tg.is : Tg → List Nat
  | .nm i => [i]
  | .tp is => is
def gNames : List Nat → TGs
  | [] => gNil
  | i :: is => gCons (gName i) (gNames is)
def tgG (K : Frag) : Tg → TG
  | .nm i => gName i
  | .tp is => gTup K is.length (gNames is)
theorem bindN_ok {K : Frag} {H : Hp} {Q : L2.St → Hp → Prop} (P : List Nat → Sl → L2.St → Prop) (hP : ∀ i is x v σ2 σ, RepV K H x v → P (i :: is) σ2 σ → P is (σ2.set i (some (.d x))) (σ.set i (some v))) :
    ∀ (is : List Nat) (xs : List D) (vs : List V) (σ2 σ2' : Sl) (σ : L2.St), bindN is xs σ2 = some σ2' → RepL K H xs vs → P is σ2 σ → (∀ σ', P [] σ2' σ' → Q σ' H) → gNames is vs σ H Q
  | [], [], vs, σ2, σ2', σ, e, r, p, q => by
    cases e; cases r
    exact ⟨rfl, q _ p⟩
  | [], x :: xs, vs, σ2, σ2', σ, e, r, p, q => by cases e
  | i :: is, [], vs, σ2, σ2', σ, e, r, p, q => by cases e
  | i :: is, x :: xs, vs, σ2, σ2', σ, e, r, p, q => by
    obtain ⟨v, vr, rfl, rv, rr⟩ := r
    exact ⟨v, vr, rfl, bindN_ok P hP is xs vr _ _ _ e rr (hP _ _ _ _ _ _ rv p) q⟩
theorem bindN_len {K : Frag} {H : Hp} : ∀ (is : List Nat) (xs : List D) (vs : List V) (σ2 σ2' : Sl), bindN is xs σ2 = some σ2' → RepL K H xs vs → vs.length = is.length
  | [], [], vs, σ2, σ2', e, r => by cases r; rfl
  | [], x :: xs, vs, σ2, σ2', e, r => by cases e
  | i :: is, [], vs, σ2, σ2', e, r => by cases e
  | i :: is, x :: xs, vs, σ2, σ2', e, r => by
    obtain ⟨v, vr, rfl, rv, rr⟩ := r
    simp [bindN_len is xs vr _ _ e rr]
theorem bindT_ok {K : Frag} {H : Hp} {Q : L2.St → Hp → Prop} {tg : Tg} {x : D} {v : V} {σ2 : Sl} {σ : L2.St} {Z : Sl → Prop} (P : List Nat → Sl → L2.St → Prop) (hP : ∀ i is x v σ2 σ, RepV K H x v → P (i :: is) σ2 σ → P is (σ2.set i (some (.d x))) (σ.set i (some v)))
    (rx : RepV K H x v) (p : P tg.is σ2 σ) (w : bindT tg x σ2 Z) (q : ∀ σ2' σ', P [] σ2' σ' → Z σ2' → Q σ' H) : tgG K tg v σ H Q := by
  unfold bindT at w
  split at w
  · exact q _ _ (hP _ _ _ _ _ _ rx p) w
  · obtain ⟨σ', e, w⟩ := w
    obtain ⟨t, vs, rfl, hs, r⟩ := rx
    exact ⟨t, vs, rfl, hs, bindN_len _ _ _ _ _ e r, bindN_ok P hP _ _ _ _ _ _ e r p fun σ3 p3 => q _ _ p3 w⟩
  · exact w.elim
theorem wipe_get (σ : L2.St) : ∀ (vs : List Nat) (i : Nat), i ∉ vs → (wipe σ vs)[i]? = σ[i]?
  | [], _, _ => rfl
  | v :: vs, i, h => by
    unfold wipe
    rw [List.getElem?_set_ne (fun e : v = i => h (by rw [e]; exact List.mem_cons_self))]
    exact wipe_get σ vs i fun z => h (List.mem_cons_of_mem _ z)
theorem wipe_set (σ : L2.St) {i : Nat} {v : Option V} : ∀ (vs : List Nat), i ∈ vs → wipe (σ.set i v) vs = wipe σ vs
  | [], h => by cases h
  | u :: vs, h => by
    unfold wipe
    by_cases e : i = u
    · subst e
      by_cases m : i ∈ vs
      · rw [wipe_set σ vs m]
      · have key : ∀ (ws : List Nat), (wipe (σ.set i v) ws).set i none = (wipe σ ws).set i none := fun ws => by
          induction ws with
          | nil => unfold wipe; rw [List.set_set]
          | cons w ws ih =>
            unfold wipe
            by_cases ew : w = i
            · subst ew; rw [List.set_set, List.set_set]; exact ih
            · rw [List.set_comm _ _ ew, List.set_comm _ _ ew, ih]
        exact key vs
    · have m : i ∈ vs := (List.mem_cons.mp h).resolve_left e
      rw [wipe_set σ vs m]
theorem wipe_wipe (σ : L2.St) (vs : List Nat) : wipe (wipe σ vs) vs = wipe σ vs := by
  have h : ∀ (ws : List Nat), (∀ i ∈ ws, i ∈ vs) → wipe (wipe σ ws) vs = wipe σ vs := fun ws => by
    induction ws with
    | nil => intro _; rfl
    | cons w ws ih =>
      intro z
      rw [show wipe σ (w :: ws) = (wipe σ ws).set w none from rfl, wipe_set _ _ (z w List.mem_cons_self)]
      exact ih fun i m => z i (List.mem_cons_of_mem _ m)
  exact h vs fun _ z => z
def tstE (tst : R) : Prop := tst = .b true
section
variable {X : Cx} {T : Tbl} {c : Nat → List Vx → Hs → VK2 → Prop} {cx : Cls2} (hc : CalMono c)
include hc
/-- an expression boxed at a turn's end: the new list D, one item more -/
theorem lc_ok {tg : Tg} {it elt tst : R} {tt : TT} {te : TE} {wi : TI} {vs : List Nat} (hv : vs = tg.is) (ht : ∀ σ H Q, liftT X.K cx (wpE T c tst) σ H Q → tt σ H Q) (he : ∀ σ H Q, liftE X.K cx (wpE T c elt) σ H Q → te σ H Q)
    (hi : ∀ σ H R, liftI X.K cx it (wpI T c it) σ H R → wi σ H R) {σ : L2.St} {H : Hp} {Q : VK} (w : liftE X.K cx (wpE T c (.comp tg elt it tst)) σ H Q) : tLc wi (tgG X.K tg) tt te vs σ H Q := by
  obtain ⟨S, σ2, hr, rs, w⟩ := w
  refine hi _ _ _ ⟨S, σ2, hr, rs, wpI_mono hc w fun J S1 w JJ H1 hr1 k1 lt Dl hD => ?_⟩
  have rs1 := rs.keep k1 hr
  have lt : ∀ S' H', Rel X.K cx S' H' → Keep S1 S' H1 H' → J.ok σ2 S' → ItG X.K cx JJ J.items S' H' := fun S' H' hr' k' o =>
    lt (fun b => S1 b = none ∧ H1 b ≠ none) (fun b z1 z2 _ => ⟨z1, z2⟩) S' H' σ2 hr' (fun b ⟨z1, z2⟩ => by
      cases q : H1 b with
      | none => exact (z2 q).elim
      | some o => exact ⟨(k'.kp b o q z1).2, (k'.kp b o q z1).1⟩) o
  refine ⟨fun i m H' => m = J.items.length - i ∧ i ≤ J.items.length ∧ ∃ S' acc vacc, Rel X.K cx S' H' ∧ Keep S1 S' H1 H' ∧ H' Dl = some (.lst vacc) ∧ S' Dl = none ∧ RepL X.K H' acc vacc ∧
    compL tg J.ok (fun σ' S' K => wpE T c elt σ' S' (one1 fun y S2 => bx y S2 K)) (fun σ' S' K => wpE T c tst σ' S' (one1 (tstK K))) σ2 (J.items.drop i) acc S' (fun ys S2 => kE X.K cx S H Q [.vl ys] S2), ⟨J.items.length, by simp, Nat.zero_le _, S1, [], [], ?_, ?_, upd_same, hr1.free hD, rfl, by simpa using w⟩, ?_⟩
  · exact hr1.upd0 (hr1.free hD) (tupS_new hD)
  · exact Keep.new hD
  rintro i m H' ⟨rfl, hle, S', acc, vacc, hr', k', hDl, sD, ra, w⟩
  by_cases hlt : i < J.items.length
  · right
    rw [List.drop_eq_getElem_cons hlt] at w
    obtain ⟨ok, w⟩ := w
    obtain ⟨hgo, hy⟩ := (lt S' H' hr' k' ok i).1 _ (List.getElem?_eq_getElem hlt)
    refine ⟨hgo, fun H4 => ∃ S' acc vacc, Rel X.K cx S' H4 ∧ Keep S1 S' H1 H4 ∧ H4 Dl = some (.lst vacc) ∧ S' Dl = none ∧ RepL X.K H4 acc vacc ∧
      compL tg J.ok (fun σ' S' K => wpE T c elt σ' S' (one1 fun y S2 => bx y S2 K)) (fun σ' S' K => wpE T c tst σ' S' (one1 (tstK K))) σ2 (J.items.drop (i + 1)) acc S' (fun ys S2 => kE X.K cx S H Q [.vl ys] S2), fun H4 z => ⟨J.items.length - (i + 1), by omega, rfl, hlt, z⟩, fun x H5 y => ?_⟩
    obtain ⟨hr5, k5, rx⟩ := hy x H5 y
    have k15 := k'.trans k5
    have rs5 := rs1.keep k15 hr1
    obtain ⟨hD5, _⟩ := k5.kp _ _ hDl sD
    have ra5 := ra.keep (k5.tups hr')
    refine bindT_ok (fun rem σa σb => (∀ j ∈ rem, j ∈ vs) ∧ wipe σb vs = wipe σ vs ∧ σa.length = σb.length ∧ ∀ (j : Nat), j ∈ rem ∨ ∀ x : Vx, σa[j]? = some (some x) → ∃ v, σb[j]? = some (some v) ∧ RepX X.K H5 S' x v)
      (fun j js x v σa σb rv ⟨p1, p2, p3, p4⟩ => ⟨fun l z => p1 l (List.mem_cons_of_mem _ z), by rw [wipe_set _ _ (p1 j List.mem_cons_self)]; exact p2, by simp [p3], fun l => ?_⟩) rx ⟨fun j z => by rw [hv]; exact z, wipe_wipe σ vs, by rw [wipe_length]; exact rs5.1, fun j => ?_⟩ w fun σa σb ⟨_, p2, p3, p4⟩ w => ?_
    · by_cases e : l = j
      · subst e
        refine .inr fun y e => ?_
        by_cases hl : l < σa.length
        · rw [List.getElem?_set_self hl] at e
          cases e
          exact ⟨v, by rw [List.getElem?_set_self (p3 ▸ hl)], rv⟩
        · rw [List.getElem?_eq_none (by simpa using Nat.le_of_not_lt hl)] at e
          cases e
      · rcases p4 l with z | z
        · exact .inl ((List.mem_cons.mp z).resolve_left e)
        · refine .inr fun y ey => ?_
          rw [List.getElem?_set_ne (Ne.symm e)] at ey ⊢
          exact z y ey
    · by_cases m : j ∈ vs
      · exact .inl (hv ▸ m)
      · refine .inr fun y e => ?_
        rw [wipe_get _ _ _ m]
        exact rs5.2 j y e
    have rsb : RelX X.K S' H5 σa σb := ⟨p3, fun j y e => (p4 j).elim (fun z => by cases z) fun z => z y e⟩
    refine ⟨p2, ht _ _ _ (stepT hc hr5 rsb w fun b S6 H6 hr6 k6 rs6 w => ?_)⟩
    obtain ⟨hD6, sD6⟩ := k6.kp _ _ hD5 sD
    have ra6 := ra5.keep (k6.tups hr5)
    cases b with
    | false =>
      rw [if_neg (by decide)]
      exact ⟨S6, acc, vacc, hr6, k15.trans k6, hD6, sD6, ra6, w.f rfl⟩
    | true =>
      rw [if_pos rfl]
      refine he _ _ _ (stepE hc hr6 rs6 (w.t rfl) fun y S7 v H7 hr7 k7 rs7 r7 w => ?_)
      obtain ⟨hD7, sD7⟩ := k7.kp _ _ hD6 sD6
      have ra7 := ra6.keep (k7.tups hr6)
      have tk : TupS X.K H7 (upd H7 Dl (.lst (vacc ++ [v]))) := tupS_upd fun o e => by rw [hD7] at e; cases e; rfl
      have k17 := (k15.trans k6).trans k7
      have fin : ∀ (d : D) (S8 : Hs), Rel X.K cx S8 H7 → (∀ b o, H1 b = some o → S7 b = none → S8 b = none) → S8 Dl = none → RepV X.K H7 d v → acc.length < sizeLine → compL tg J.ok (fun σ' S' K => wpE T c elt σ' S' (one1 fun y S2 => bx y S2 K)) (fun σ' S' K => wpE T c tst σ' S' (one1 (tstK K))) σ2 (J.items.drop (i + 1)) (acc ++ [d]) S8 (fun ys S2 => kE X.K cx S H Q [.vl ys] S2) →
          ∃ acc', H7 Dl = some (.lst acc') ∧ acc'.length < sizeLine ∧ ∃ S' acc vacc, Rel X.K cx S' (upd H7 Dl (.lst (acc' ++ [v]))) ∧ Keep S1 S' H1 (upd H7 Dl (.lst (acc' ++ [v]))) ∧ (upd H7 Dl (.lst (acc' ++ [v]))) Dl = some (.lst vacc) ∧ S' Dl = none ∧ RepL X.K (upd H7 Dl (.lst (acc' ++ [v]))) acc vacc ∧
            compL tg J.ok (fun σ' S' K => wpE T c elt σ' S' (one1 fun y S2 => bx y S2 K)) (fun σ' S' K => wpE T c tst σ' S' (one1 (tstK K))) σ2 (J.items.drop (i + 1)) acc S' (fun ys S2 => kE X.K cx S H Q [.vl ys] S2) := fun d S8 hr8 hk sD8 rv hz w =>
        ⟨vacc, hD7, by rw [← ra.length]; exact hz, S8, acc ++ [d], vacc ++ [v], hr8.upd0 sD8 tk, ⟨fun b o e n => ?_, fun b e => ?_⟩, upd_same, sD8, (ra7.keep tk).append (.cons (RepV.keep tk _ _ rv) .nil), w⟩
      · cases y with
        | d y => exact fin _ S7 hr7 (fun b o _ z => z) sD7 r7.1 w.1 w.2
        | vl ds =>
          obtain ⟨a, us, rfl, ha, sa, ru⟩ := r7.1
          obtain ⟨a', ea, na⟩ := r7.2 rfl
          cases ea
          have ne : Dl ≠ a := fun z => by subst z; rw [hD6] at na; cases na
          have w := w a sa
          refine fin (.ref a) (su S7 a (.lst _)) (hr7.box ⟨us, ha, ru⟩) (fun b o e z => ?_) (by rw [su_ne ne]; exact sD7) rfl w.1 w.2
          have nb : b ≠ a := fun z => by
            subst z
            have h1 := (k15.trans k6).up _ na
            rw [e] at h1; cases h1
          rw [su_ne nb]; exact z
        | vd ds =>
          obtain ⟨a, us, rfl, ha, sa, ru⟩ := r7.1
          obtain ⟨a', ea, na⟩ := r7.2 rfl
          cases ea
          have ne : Dl ≠ a := fun z => by subst z; rw [hD6] at na; cases na
          have w := w a sa
          refine fin (.ref a) (su S7 a (.dic _)) (hr7.box ⟨us, ha, ru⟩) (fun b o e z => ?_) (by rw [su_ne ne]; exact sD7) rfl w.1 w.2
          have nb : b ≠ a := fun z => by
            subst z
            have h1 := (k15.trans k6).up _ na
            rw [e] at h1; cases h1
          rw [su_ne nb]; exact z
        | bw ds => exact w.elim
        | fz ds => exact w.elim
        | bd ds => exact w.elim
        | st ds => exact w.elim
      · obtain ⟨h1, h2⟩ := k17.kp b o e n
        refine ⟨?_, hk b o e h2⟩
        rw [upd_ne (fun z => by subst z; rw [e] at hD; cases hD)]
        exact h1
      · refine k17.up b ?_
        by_cases z : b = Dl
        · subst z; rw [upd_same] at e; cases e
        · rw [upd_ne z] at e; exact e
  · have e : i = J.items.length := by omega
    subst e
    rw [List.drop_length] at w
    obtain ⟨ok, x, ex, q⟩ := w
    cases ex
    refine .inl ⟨(lt S' H' hr' k' ok _).2 rfl, q _ _ hr' (k1.trans k') ⟨⟨Dl, vacc, rfl, hDl, sD, ra⟩, fun _ => ⟨Dl, rfl, k1.up _ hD⟩⟩⟩
end
end DL

/-! DL11: statements are sound. -/
namespace DL
open PySem L2 PySem.Spec PyProof.Rows
section
variable {X : Cx} {T : Tbl} {c : Nat → List Vx → Hs → VK2 → Prop} {cx : Cls2} (hc : CalMono c)
include hc
theorem ptsImp {ifs : List Expr} {t t' : TT} (h : PTs X ifs t) (i : ∀ σ H Q, t' σ H Q → t σ H Q) : PTs X ifs t' := ⟨fun pins s σ H Q I w => h.run pins s σ H Q I (i _ _ _ w)⟩
theorem pts_tt : PTs X [] (liftT X.K cx (wpE T c (.b true))) := ptsImp hc pts_nil fun σ H Q ⟨S, σ2, hr, rs, w⟩ => w H hr .refl
theorem snd_comp {tg : Tg} {it elt tst : R} {eelt etg eiter : Expr} {ifs : List Expr} {scope : Scope} {own : List (Str × Nat)} {pos : Pos} (hcalm : X.calm = true) (hN : X.N.Nodup) (hi : PI X etg eiter (liftI X.K cx it (wpI T c it))) (ok : BlkOk X.N X.env.scope scope own) (hv : own.map (·.2) = tg.is)
    (hg : ∀ (s : Shared) (H : Hp) (C : Addr) (cl : List (Str × Addr)) (fp : List Addr), PG (X.blk s H scope (compEnvC scope cl C X.env) fp) etg (tgG X.K tg))
    (ht : ∀ (s : Shared) (H : Hp) (C : Addr) (cl : List (Str × Addr)) (fp : List Addr), PTs (X.blk s H scope (compEnvC scope cl C X.env) fp) ifs (liftT X.K cx (wpE T c tst)))
    (he : ∀ (s : Shared) (H : Hp) (C : Addr) (cl : List (Str × Addr)) (fp : List Addr), PE (X.blk s H scope (compEnvC scope cl C X.env) fp) eelt (liftE X.K cx (wpE T c elt)))
    (hs : ∀ x, foldedSetIterable eiter X.env x = pure x) : PE X (.ListComp eelt [⟨etg, eiter, ifs, 0⟩] scope pos) (liftE X.K cx (wpE T c (.comp tg elt it tst))) :=
  peImp (pe_lc hcalm hN hi ok hg ht he hs) fun σ H Q w => lc_ok hc hv (fun _ _ _ h => h) (fun _ _ _ h => h) (fun _ _ _ h => h) w
end

/-! ### statements -/
structure Bs where
  pd : Addr → Prop
  hb : Hp
  h0 : Hp
structure Bs.Le (B B' : Bs) : Prop where
  pd : ∀ b, B.pd b → B'.pd b ∧ B'.hb b = B.hb b
  h0 : B'.h0 = B.h0
theorem Bs.Le.refl {B : Bs} : B.Le B := ⟨fun _ h => ⟨h, rfl⟩, rfl⟩
theorem Bs.Le.trans {A B C : Bs} (h : A.Le B) (k : B.Le C) : A.Le C := ⟨fun b z => ⟨(k.pd b (h.pd b z).1).1, (k.pd b (h.pd b z).1).2.trans (h.pd b z).2⟩, k.h0.trans h.h0⟩
structure KeepB (B : Bs) (S : Hs) (H : Hp) : Prop where
  st : ∀ b, B.pd b → S b = none ∧ H b = B.hb b ∧ H b ≠ none
  hn : ∀ b, H b = none → B.h0 b = none
def lent : Vx → Bool
  | .bw _ => true
  | .bd _ => true
  | _ => false
structure RelS (B : Bs) (K : Frag) (S : Hs) (H : Hp) (σ2 : Sl) (σ : L2.St) : Prop where
  rx : RelX K S H σ2 σ
  ow : ∀ (i : Nat) (x : Vx) (a : Addr), σ2[i]? = some (some x) → own x = true → σ[i]? = some (some (.ref a)) → ¬ B.pd a ∧ B.h0 a = none ∧ ∀ (j : Nat) (y : Vx), σ2[j]? = some (some y) → own y = true → σ[j]? = some (some (.ref a)) → j = i
  lt : ∀ (i : Nat) (x : Vx) (a : Addr), σ2[i]? = some (some x) → lent x = true → σ[i]? = some (some (.ref a)) → B.pd a
section
variable {K : Frag} {cx : Cls2} {S S' S1 : Hs} {H H' H1 H0 : Hp} {σ2 : Sl} {σ : L2.St} {B B' : Bs}
theorem KeepB.le (l : B.Le B') (k : KeepB B' S H) : KeepB B S H := ⟨fun b z => let ⟨h1, h2⟩ := l.pd b z; let ⟨g1, g2, g3⟩ := k.st b h1; ⟨g1, g2.trans h2, g3⟩, fun b z => by rw [← l.h0]; exact k.hn b z⟩
theorem KeepB.keep (k : Keep S S' H H') (kb : KeepB B S H) : KeepB B S' H' := ⟨fun b z => by
  obtain ⟨h1, h2, h3⟩ := kb.st b z
  cases q : H b with
  | none => exact (h3 q).elim
  | some o =>
    obtain ⟨g1, g2⟩ := k.kp b o q h1
    exact ⟨g2, by rw [g1, ← h2, q], by rw [g1]; simp⟩, fun b z => kb.hn b (k.up b z)⟩
theorem RelS.keep (k : Keep S S' H H') (hr : Rel K cx S H) (r : RelS B K S H σ2 σ) : RelS B K S' H' σ2 σ := ⟨r.rx.keep k hr, r.ow, r.lt⟩
theorem RelS.le {r : RelS B' K S H σ2 σ} : RelX K S H σ2 σ := r.rx
/-- a slot's owned place is a list or a dict -/
theorem RelX.ownH (r : RelX K S H σ2 σ) {i : Nat} {x : Vx} {a : Addr} (e : σ2[i]? = some (some x)) (o : own x = true) (e' : σ[i]? = some (some (.ref a))) : H a ≠ none ∧ S a = none := by
  obtain ⟨v, h1, h2⟩ := r.2 i x e
  rw [e'] at h1; cases h1
  cases x with
  | vl ds => obtain ⟨b, us, eb, h, n, _⟩ := h2; cases eb; exact ⟨by rw [h]; simp, n⟩
  | vd ds => obtain ⟨b, us, eb, h, n, _⟩ := h2; cases eb; exact ⟨by rw [h]; simp, n⟩
  | _ => cases o
/-- a slot is set -/
theorem RelS.set {i : Nat} {x : Vx} {v : V} (r : RelS B K S H σ2 σ) (rx : RepX K H S x v) (ho : own x = true → ∀ a, v = .ref a → ¬ B.pd a ∧ B.h0 a = none ∧ ∀ (j : Nat) (y : Vx), j ≠ i → σ2[j]? = some (some y) → own y = true → σ[j]? ≠ some (some (.ref a)))
    (hl : lent x = true → ∀ a, v = .ref a → B.pd a) : RelS B K S H (σ2.set i (some x)) (σ.set i (some v)) := by
  have at_i : ∀ {y : Vx}, (σ2.set i (some x))[i]? = some (some y) → y = x ∧ i < σ2.length := fun {y} e => by
    by_cases hl : i < σ2.length
    · rw [List.getElem?_set_self hl] at e; cases e; exact ⟨rfl, hl⟩
    · rw [List.getElem?_eq_none (by simpa using Nat.le_of_not_lt hl)] at e; cases e
  have len := r.rx.1
  refine ⟨⟨by simp [len], fun j y e => ?_⟩, fun j y a e o e' => ?_, fun j y a e o e' => ?_⟩
  · by_cases z : j = i
    · subst z
      obtain ⟨rfl, hlt⟩ := at_i e
      exact ⟨v, by rw [List.getElem?_set_self (len ▸ hlt)], rx⟩
    · rw [List.getElem?_set_ne (Ne.symm z)] at e ⊢
      exact r.rx.2 j y e
  · by_cases z : j = i
    · subst z
      obtain ⟨rfl, hlt⟩ := at_i e
      rw [List.getElem?_set_self (len ▸ hlt)] at e'
      cases e'
      obtain ⟨h1, h2, h3⟩ := ho o a rfl
      refine ⟨h1, h2, fun k y ek ok ek' => ?_⟩
      by_cases zk : k = j
      · exact zk
      · rw [List.getElem?_set_ne (Ne.symm zk)] at ek ek'
        exact (h3 k y zk ek ok ek').elim
    · rw [List.getElem?_set_ne (Ne.symm z)] at e e'
      obtain ⟨h1, h2, h3⟩ := r.ow j y a e o e'
      refine ⟨h1, h2, fun k w ek ok ek' => ?_⟩
      by_cases zk : k = i
      · subst zk
        obtain ⟨rfl, hlt⟩ := at_i ek
        rw [List.getElem?_set_self (len ▸ hlt)] at ek'
        cases ek'
        exact ((ho ok a rfl).2.2 j y z e o e').elim
      · rw [List.getElem?_set_ne (Ne.symm zk)] at ek ek'
        exact h3 k w ek ok ek'
  · by_cases z : j = i
    · subst z
      obtain ⟨rfl, hlt⟩ := at_i e
      rw [List.getElem?_set_self (len ▸ hlt)] at e'
      cases e'
      exact hl o a rfl
    · rw [List.getElem?_set_ne (Ne.symm z)] at e e'
      exact r.lt j y a e o e'
theorem RelS.setD {i : Nat} {d : D} {v : V} (r : RelS B K S H σ2 σ) (rx : RepV K H d v) : RelS B K S H (σ2.set i (some (.d d))) (σ.set i (some v)) := r.set rx (fun e => by cases e) (fun e => by cases e)
/-- a new value is stored -/
theorem RelS.setN {i : Nat} {x : Vx} {v : V} (kb : KeepB B S H) (r : RelS B K S H σ2 σ) (k : Keep S S1 H H1) (hr : Rel K cx S H) (rx : RepR K H H1 S1 x v) (hl : lent x = false) : RelS B K S1 H1 (σ2.set i (some x)) (σ.set i (some v)) :=
  (r.keep k hr).set rx.1 (fun o a e => by
    obtain ⟨a', e', n⟩ := rx.2 o
    rw [e] at e'; cases e'
    exact ⟨fun p => (kb.st a p).2.2 n, kb.hn a n, fun j y ne ej oj ej' => (r.rx.ownH ej oj ej').1 n⟩) (fun e => by rw [hl] at e; cases e)
theorem stor_of {x : Vx} {P : Prop} (h : stor x P) : lent x = false ∧ P := by
  cases x <;> first | exact ⟨rfl, h⟩ | exact h.elim
abbrev WS := Sl → Hs → SK2 → VK2 → SK2 → SK2 → Prop
def nxS (K : Frag) (cx : Cls2) (B : Bs) (N : L2.St → Hp → Prop) : SK2 := fun σ2 S => ∀ B' σ H, B.Le B' → Rel K cx S H → RelS B' K S H σ2 σ → KeepB B' S H → N σ H
def rtS (K : Frag) (cx : Cls2) (B : Bs) (N : V → Hp → Prop) : VK2 := fun x S => ∀ B' v H, B.Le B' → Rel K cx S H → KeepB B' S H → RepX K H S x v → (own x = true → ∃ a, v = .ref a ∧ B.h0 a = none) → N v H
def liftS (K : Frag) (cx : Cls2) (w : WS) : TS := fun D σ H => ∃ B S σ2, Rel K cx S H ∧ RelS B K S H σ2 σ ∧ KeepB B S H ∧ w σ2 S (nxS K cx B D.nx) (rtS K cx B D.rt) (nxS K cx B D.bk) (nxS K cx B D.ct)
theorem nxS.le {N : L2.St → Hp → Prop} (l : B.Le B') {σ2 : Sl} {S : Hs} (h : nxS K cx B N σ2 S) : nxS K cx B' N σ2 S := fun B2 σ H l2 => h B2 σ H (l.trans l2)
theorem rtS.le {N : V → Hp → Prop} (l : B.Le B') {x : Vx} {S : Hs} (h : rtS K cx B N x S) : rtS K cx B' N x S := fun B2 v H l2 hr kb r o => h B2 v H (l.trans l2) hr kb r fun e => let ⟨a, h1, h2⟩ := o e; ⟨a, h1, by rw [← l.h0]; exact h2⟩
end
section
variable {X : Cx} {T : Tbl} {c : Nat → List Vx → Hs → VK2 → Prop} {cx : Cls2}
theorem psImp {st : Stmt} {t t' : TS} (h : PS X st t) (i : ∀ D σ H, t' D σ H → t D σ H) : PS X st t' := ⟨fun pins s σ H D I w => h.run pins s σ H D I (i _ _ _ w)⟩
theorem pssImp {st : List Stmt} {t t' : TS} (h : PSs X st t) (i : ∀ D σ H, t' D σ H → t D σ H) : PSs X st t' := ⟨fun pins s σ H D I w => h.run pins s σ H D I (i _ _ _ w)⟩
variable (hc : CalMono c)
include hc
theorem stepSE {K : Frag} {S : Hs} {H : Hp} {σ2 : Sl} {σ : L2.St} {B : Bs} {r : R} {P : VK2} {Q : VK} (hr : Rel K cx S H) (rs : RelS B K S H σ2 σ) (kb : KeepB B S H) (w : wpE T c r σ2 S (one1 P))
    (h : ∀ x S1 v H1, Rel K cx S1 H1 → Keep S S1 H H1 → RelS B K S1 H1 σ2 σ → KeepB B S1 H1 → RepR K H H1 S1 x v → P x S1 → Q v H1) : liftE K cx (wpE T c r) σ H Q :=
  stepE hc hr rs.rx w fun x S1 v H1 hr1 k1 rs1 r1 p => h x S1 v H1 hr1 k1 (rs.keep k1 hr) (kb.keep k1) r1 p
theorem st_seq {a r : R} {st : Stmt} {rest : List Stmt} (h1 : PS X st (liftS X.K cx (wpS T c a))) (h2 : PSs X rest (liftS X.K cx (wpS T c r))) : PSs X (st :: rest) (liftS X.K cx (wpS T c (.seq a r))) :=
  pssImp (pss_cons h1 h2) fun D σ H ⟨B, S, σ2, hr, rs, kb, w⟩ => ⟨B, S, σ2, hr, rs, kb, wpS_mono hc (fun σ' S' w B' σ1 H1 l hr1 rs1 kb1 => ⟨B', S', σ', hr1, rs1, kb1, wpS_mono hc (fun _ _ => nxS.le l) (fun _ _ => rtS.le l) (fun _ _ => nxS.le l) (fun _ _ => nxS.le l) w⟩)
    (fun _ _ z => z) (fun _ _ z => z) (fun _ _ z => z) w⟩
theorem st_one {a : R} {st : Stmt} (h1 : PS X st (liftS X.K cx (wpS T c a))) : PSs X [st] (liftS X.K cx (wpS T c a)) := pss_one h1
theorem st_skip : PSs X [] (liftS X.K cx (wpS T c .skip)) := pssImp pss_nil fun D σ H ⟨B, S, σ2, hr, rs, kb, w⟩ => w B σ H .refl hr rs kb
theorem st_pass {pos : Pos} : PS X (.Pass pos) (liftS X.K cx (wpS T c .skip)) := psImp ps_pass fun D σ H ⟨B, S, σ2, hr, rs, kb, w⟩ => w B σ H .refl hr rs kb
theorem st_brk {pos : Pos} : PS X (.Break pos) (liftS X.K cx (wpS T c .brk)) := psImp ps_break fun D σ H ⟨B, S, σ2, hr, rs, kb, w⟩ => w B σ H .refl hr rs kb
theorem st_cnt {pos : Pos} : PS X (.Continue pos) (liftS X.K cx (wpS T c .cnt)) := psImp ps_continue fun D σ H ⟨B, S, σ2, hr, rs, kb, w⟩ => w B σ H .refl hr rs kb
theorem st_never {st : Stmt} : PS X st (liftS X.K cx (wpS T c .never)) := psImp ps_never fun D σ H ⟨B, S, σ2, hr, rs, kb, w⟩ => w
theorem st_nevers {st : List Stmt} : PSs X st (liftS X.K cx (wpS T c .never)) := pssImp pss_never fun D σ H ⟨B, S, σ2, hr, rs, kb, w⟩ => w
theorem st_expr {e : R} {ee : Expr} {pos : Pos} (he : PE X ee (liftE X.K cx (wpE T c e))) (hs : swapsWith ee none pos.line X.env = pure false) : PS X (.Expr ee pos) (liftS X.K cx (wpS T c (.expr e))) :=
  psImp (ps_expr he hs) fun D σ H ⟨B, S, σ2, hr, rs, kb, w⟩ => stepSE hc hr rs kb w fun x S1 v H1 hr1 k1 rs1 kb1 r1 w => w B σ H1 .refl hr1 rs1 kb1
theorem st_set {i : Nat} {e : R} {st : Stmt} {te : TE} (h : PS X st (tAsg te (gName i))) (ht : ∀ σ H Q, liftE X.K cx (wpE T c e) σ H Q → te σ H Q) : PS X st (liftS X.K cx (wpS T c (.set i e))) :=
  psImp h fun D σ H ⟨B, S, σ2, hr, rs, kb, w⟩ => ht _ _ _ (stepSE hc hr rs kb w fun x S1 v H1 hr1 k1 rs1 kb1 r1 w => by
    obtain ⟨hl, w⟩ := stor_of w
    exact w B _ H1 .refl hr1 (rs.setN kb k1 hr r1 hl) kb1)
/-- (a, b, ..) = a list or a tuple -/
def gSeq (K : Frag) (n : Nat) (t : TGs) : TG := fun v σ H Q => ∃ a xs, v = .ref a ∧ (SqL K H a xs ∨ SqT K H a xs) ∧ xs.length = n ∧ t xs σ H Q
omit hc in
theorem pg_seq {es : List Expr} {k : Nat} {t : TGs} {n : Nat} {pos : Pos} (hcalm : X.calm = true) (h : PGs X es t) (hn : (assignEach es X.env).length = n) (hst : (assignEach es X.env).findIdx? (·.1) = none) : PG X (.Tuple es k pos) (gSeq X.K n t) :=
  ⟨fun pins s σ H v u Q I r ⟨a, xs, e, hq, hl, hw⟩ => by
    rcases hq with hq | hq
    · exact (pg_lst hcalm h hn hst).run pins s σ H v u Q I r ⟨a, xs, e, hq, hl, hw⟩
    · exact (pg_tup hcalm h hn hst).run pins s σ H v u Q I r ⟨a, xs, e, hq, hl, hw⟩⟩
theorem st_setT {is : List Nat} {e : R} {st : Stmt} (h : PS X st (tAsg (liftE X.K cx (wpE T c e)) (gSeq X.K is.length (gNames is)))) : PS X st (liftS X.K cx (wpS T c (.setT is e))) :=
  psImp h fun D σ H ⟨B, S, σ2, hr, rs, kb, w⟩ => stepSE hc hr rs kb w fun x S1 v H1 hr1 k1 rs1 kb1 r1 w => by
    obtain ⟨cn, ⟨ds, e1, σ', e2, w⟩, hcn⟩ := view_of hr1 r1.1 w
    have key : ∀ (a : Addr) (vs : List V), v = .ref a → (SqL X.K H1 a vs ∨ SqT X.K H1 a vs) → RepL X.K H1 ds vs → gSeq X.K is.length (gNames is) v σ H1 D.nx := fun a vs ev hs r =>
      ⟨a, vs, ev, hs, bindN_len _ _ _ _ _ e2 r, bindN_ok (fun _ σa σb => RelS B X.K S1 H1 σa σb) (fun i is x v σa σb rv p => p.setD rv) _ _ _ _ _ _ e2 r rs1 fun σb p => w B σb H1 .refl hr1 p kb1⟩
    cases cn with
    | l ds' => cases e1; obtain ⟨p, vs, ev, h, r⟩ := hcn; exact key p vs ev (.inl (SqL.of h)) r
    | f ds' => cases e1; obtain ⟨p, vs, ev, h, r⟩ := hcn; exact key p vs ev (.inl h) r
    | t ds' => cases e1; obtain ⟨p, vs, ev, h, r⟩ := hcn; exact key p vs ev (.inr h) r
    | _ => cases e1
end
end DL

/-! DL12: statements, further. -/
namespace DL
open PySem L2 PySem.Spec PyProof.Rows
theorem lend_idem (x : Vx) : lendX (lendX x) = lendX x := by cases x <;> rfl
theorem lend_own {x : Vx} (h : own (lendX x) = true) : lendX x = x := by cases x <;> first | rfl | cases h
theorem lend_lb (x : Vx) : lentB (lendX x) = lentB x := by cases x <;> rfl
theorem RepX.lend {K : Frag} {H : Hp} {S : Hs} {x : Vx} {v : V} (r : RepX K H S x v) : RepX K H S (lendX x) v := by cases x <;> exact r
theorem dem_itv (i : Nat) (σ2 : Sl) : (dem (.itv i) σ2).length = σ2.length ∧ (∀ (j : Nat) (y : Vx), (dem (.itv i) σ2)[j]? = some (some y) → ∃ x, σ2[j]? = some (some x) ∧ (y = lendX x ∨ (j ≠ i ∧ y = x))) ∧ ∀ (j : Nat) (x : Vx), σ2[j]? = some (some x) → ∃ y, (dem (.itv i) σ2)[j]? = some (some y) ∧ (y = x ∨ y = lendX x) := by
  show (match σ2[i]? with | some (some x) => σ2.set i (some (lendX x)) | _ => σ2 : Sl).length = _ ∧ (∀ (j : Nat) (y : Vx), (match σ2[i]? with | some (some x) => σ2.set i (some (lendX x)) | _ => σ2 : Sl)[j]? = _ → _) ∧ ∀ (j : Nat) (x : Vx), _ → ∃ y, (match σ2[i]? with | some (some x) => σ2.set i (some (lendX x)) | _ => σ2 : Sl)[j]? = _ ∧ _
  split
  · rename_i x0 e0
    have hi := (List.getElem?_eq_some_iff.mp e0).1
    refine ⟨by simp, fun j y e => ?_, fun j x e => ?_⟩
    · by_cases z : j = i
      · subst z
        rw [List.getElem?_set_self hi] at e; cases e
        exact ⟨x0, e0, .inl rfl⟩
      · rw [List.getElem?_set_ne (Ne.symm z)] at e
        exact ⟨y, e, .inr ⟨z, rfl⟩⟩
    · by_cases z : j = i
      · subst z
        rw [e0] at e; cases e
        exact ⟨_, by rw [List.getElem?_set_self hi], .inr rfl⟩
      · exact ⟨x, by rw [List.getElem?_set_ne (Ne.symm z)]; exact e, .inl rfl⟩
  · rename_i h
    refine ⟨rfl, fun j y e => ⟨y, e, ?_⟩, fun j x e => ⟨x, e, .inl rfl⟩⟩
    by_cases z : j = i
    · subst z; exact (h _ e).elim
    · exact .inr ⟨z, rfl⟩
theorem dem_sub : ∀ (it : R) (σ2 : Sl), (dem it σ2).length = σ2.length ∧ (∀ (j : Nat) (y : Vx), (dem it σ2)[j]? = some (some y) → ∃ x, σ2[j]? = some (some x) ∧ (y = x ∨ y = lendX x)) ∧ ∀ (j : Nat) (x : Vx), σ2[j]? = some (some x) → ∃ y, (dem it σ2)[j]? = some (some y) ∧ (y = x ∨ y = lendX x) := by
  intro it
  induction it with
  | itv i => exact fun σ2 => ⟨(dem_itv i σ2).1, fun j y e => let ⟨x, e', h⟩ := (dem_itv i σ2).2.1 j y e; ⟨x, e', h.elim .inr fun z => .inl z.2⟩, (dem_itv i σ2).2.2⟩
  | enu a ih => exact ih
  | zip a b iha ihb =>
    intro σ2
    obtain ⟨a1, a2, a3⟩ := iha σ2
    obtain ⟨b1, b2, b3⟩ := ihb (dem a σ2)
    refine ⟨b1.trans a1, fun j y e => ?_, fun j x e => ?_⟩
    · obtain ⟨x1, e1, h1⟩ := b2 j y e
      obtain ⟨x0, e0, h0⟩ := a2 j x1 e1
      refine ⟨x0, e0, ?_⟩
      rcases h1 with rfl | rfl
      · exact h0
      · rcases h0 with rfl | rfl
        · exact .inr rfl
        · exact .inr (lend_idem _)
    · obtain ⟨x1, e1, h1⟩ := a3 j x e
      obtain ⟨x2, e2, h2⟩ := b3 j x1 e1
      refine ⟨x2, e2, ?_⟩
      rcases h2 with rfl | rfl
      · exact h1
      · rcases h1 with rfl | rfl
        · exact .inr rfl
        · exact .inr (lend_idem _)
  | _ => exact fun σ2 => ⟨rfl, fun j y e => ⟨y, e, .inl rfl⟩, fun j x e => ⟨x, e, .inl rfl⟩⟩
theorem dem_own {it : R} {σ2 : Sl} {j : Nat} {y : Vx} (e : (dem it σ2)[j]? = some (some y)) (o : own y = true) : σ2[j]? = some (some y) := by
  obtain ⟨x, e', h⟩ := (dem_sub it σ2).2.1 j y e
  rcases h with rfl | rfl
  · exact e'
  · rw [lend_own o]; exact e'
def Dist (σ2 : Sl) (σ : L2.St) : Prop := ∀ (i j : Nat) (x y : Vx) (b : Addr), σ2[j]? = some (some y) → own y = true → σ[j]? = some (some (.ref b)) → σ2[i]? = some (some x) → lentB x = true → σ[i]? = some (some (.ref b)) → i = j
theorem srcA_dem (a : R) {σ2 : Sl} {σ : L2.St} {b : Addr} : ∀ (it : R), srcA it σ2 σ b → srcA it (dem a σ2) σ b := by
  intro it
  induction it with
  | itv i =>
    rintro ⟨x, e, l, e'⟩
    obtain ⟨y, e2, h⟩ := (dem_sub a σ2).2.2 i x e
    refine ⟨y, e2, ?_, e'⟩
    rcases h with rfl | rfl
    · exact l
    · rw [lend_lb]; exact l
  | enu a ih => exact ih
  | zip a b iha ihb => exact fun h => h.elim (fun z => .inl (iha z)) fun z => .inr (ihb z)
  | _ => exact fun h => h.elim
theorem Dist.dem (a : R) {σ2 : Sl} {σ : L2.St} (h : Dist σ2 σ) : Dist (dem a σ2) σ := fun i j x y b ej oj ej' ei li ei' => by
  obtain ⟨x0, e0, h0⟩ := (dem_sub a σ2).2.1 i x ei
  refine h i j x0 y b (dem_own ej oj) oj ej' e0 ?_ ei'
  rcases h0 with rfl | rfl
  · exact li
  · rwa [lend_lb] at li
theorem dem_src {σ : L2.St} {b : Addr} : ∀ (it : R) (σ2 : Sl), Dist σ2 σ → srcA it σ2 σ b → ¬ OwnA (dem it σ2) σ b := by
  intro it
  induction it with
  | itv i =>
    rintro σ2 d ⟨x, e, l, e'⟩ ⟨j, y, ej, oj, ej'⟩
    have ij := d i j x y b (dem_own ej oj) oj ej' e l e'
    subst ij
    obtain ⟨x0, e0, h0⟩ := (dem_itv i σ2).2.1 i y ej
    rcases h0 with rfl | ⟨z, _⟩
    · rw [e] at e0; cases e0
      cases x <;> first | cases l; done | cases oj
    · exact z rfl
  | enu a ih => exact ih
  | zip a a' iha ihb =>
    rintro σ2 d (h | h) ⟨j, y, ej, oj, ej'⟩
    · exact iha σ2 d h ⟨j, y, dem_own ej oj, oj, ej'⟩
    · exact ihb (DL.dem a σ2) (d.dem a) (srcA_dem a a' h) ⟨j, y, ej, oj, ej'⟩
  | _ => exact fun σ2 d h => h.elim
theorem RelS.dist {B : Bs} {K : Frag} {S : Hs} {H : Hp} {σ2 : Sl} {σ : L2.St} (r : RelS B K S H σ2 σ) : Dist σ2 σ := fun i j x y b ej oj ej' ei li ei' => by
  obtain ⟨h1, h2, h3⟩ := r.ow j y b ej oj ej'
  cases x with
  | vl ds => exact h3 i _ ei rfl ei'
  | bw ds => exact (h1 (r.lt i _ b ei rfl ei')).elim
  | _ => cases li
/-- the base of a loop -/
def loopB (B : Bs) (S1 : Hs) (H1 : Hp) (σ2 : Sl) (σ : L2.St) : Bs := ⟨fun b => S1 b = none ∧ H1 b ≠ none ∧ ¬ OwnA σ2 σ b, H1, B.h0⟩
section
variable {K : Frag} {cx : Cls2} {S1 : Hs} {H1 : Hp} {σ2 : Sl} {σ : L2.St} {B : Bs}
theorem loop_le (it : R) (kb : KeepB B S1 H1) (rs : RelS B K S1 H1 σ2 σ) : B.Le (loopB B S1 H1 (dem it σ2) σ) := ⟨fun b z => by
  obtain ⟨h1, h2, h3⟩ := kb.st b z
  exact ⟨⟨h1, h3, fun ⟨i, x, e, o, e'⟩ => (rs.ow i x b (dem_own e o) o e').1 z⟩, h2⟩, rfl⟩
theorem loop_kb (it : R) (kb : KeepB B S1 H1) : KeepB (loopB B S1 H1 (dem it σ2) σ) S1 H1 := ⟨fun b z => ⟨z.1, rfl, z.2.1⟩, kb.hn⟩
theorem loop_rs (it : R) (rs : RelS B K S1 H1 σ2 σ) : RelS (loopB B S1 H1 (dem it σ2) σ) K S1 H1 (dem it σ2) σ := by
  refine ⟨⟨(dem_sub it σ2).1.trans rs.rx.1, fun i y e => ?_⟩, fun i y a e o e' => ⟨fun z => z.2.2 ⟨i, y, e, o, e'⟩, (rs.ow i y a (dem_own e o) o e').2.1, fun j w ej oj ej' => (rs.ow i y a (dem_own e o) o e').2.2 j w (dem_own ej oj) oj ej'⟩, fun i y a e l e' => ?_⟩
  · obtain ⟨x, e0, h⟩ := (dem_sub it σ2).2.1 i y e
    obtain ⟨v, h1, h2⟩ := rs.rx.2 i x e0
    refine ⟨v, h1, ?_⟩
    rcases h with rfl | rfl
    · exact h2
    · exact h2.lend
  · obtain ⟨x, e0, h⟩ := (dem_sub it σ2).2.1 i y e
    obtain ⟨v, h1, h2⟩ := rs.rx.2 i x e0
    rw [e'] at h1; cases h1
    have hx : lent x = true ∨ own x = true := by
      rcases h with rfl | rfl
      · exact .inl l
      · cases x <;> first | exact .inl rfl | exact .inr rfl | cases l
    have hz : S1 a = none ∧ H1 a ≠ none := by
      rcases h with rfl | rfl
      · cases y with
        | bw ds => obtain ⟨p, us, ep, hp, np, _⟩ := h2; cases ep; exact ⟨np, by rw [hp]; simp⟩
        | bd ds => obtain ⟨p, us, ep, hp, np, _⟩ := h2; cases ep; exact ⟨np, by rw [hp]; simp⟩
        | _ => cases l
      · cases x with
        | vl ds => obtain ⟨p, us, ep, hp, np, _⟩ := h2; cases ep; exact ⟨np, by rw [hp]; simp⟩
        | bw ds => obtain ⟨p, us, ep, hp, np, _⟩ := h2; cases ep; exact ⟨np, by rw [hp]; simp⟩
        | bd ds => obtain ⟨p, us, ep, hp, np, _⟩ := h2; cases ep; exact ⟨np, by rw [hp]; simp⟩
        | _ => cases l
    refine ⟨hz.1, hz.2, fun ⟨j, w, ej, oj, ej'⟩ => ?_⟩
    obtain ⟨g1, g2, g3⟩ := rs.ow j w a (dem_own ej oj) oj ej'
    rcases hx with hx | hx
    · exact g1 (rs.lt i x a e0 hx e')
    · have ij := g3 i x e0 hx e'
      subst ij
      rw [ej] at e; cases e
      cases y <;> first | cases l; done | cases oj
end
section
variable {X : Cx} {T : Tbl} {c : Nat → List Vx → Hs → VK2 → Prop} {cx : Cls2} (hc : CalMono c)
include hc
theorem st_iff {k a r : R} {ek : Expr} {ea er : List Stmt} {pos : Pos} (hk : PT X ek (liftT X.K cx (wpE T c k))) (ha : PSs X ea (liftS X.K cx (wpS T c a))) (hr : PSs X er (liftS X.K cx (wpS T c r))) : PS X (.If ek ea er pos) (liftS X.K cx (wpS T c (.iff k a r))) :=
  psImp (ps_if hk ha hr) fun D σ H ⟨B, S, σ2, hr, rs, kb, w⟩ => stepT hc hr rs.rx w fun b S1 H1 hr1 k1 rs1 w => by
    cases b with
    | true => rw [if_pos rfl]; exact ⟨B, S1, σ2, hr1, rs.keep k1 hr, kb.keep k1, w.t rfl⟩
    | false => rw [if_neg (by decide)]; exact ⟨B, S1, σ2, hr1, rs.keep k1 hr, kb.keep k1, w.f rfl⟩
theorem st_whl {k a : R} {ek : Expr} {ea : List Stmt} {pos : Pos} (hp : PassesOwn (model X.prog X.w) X.A X.env X.xe) (hk : PT X ek (liftT X.K cx (wpE T c k))) (ha : PSs X ea (liftS X.K cx (wpS T c a))) : PS X (.While ek ea [] pos) (liftS X.K cx (wpS T c (.whl k a))) :=
  psImp (ps_while hp hk ha) fun D σ H ⟨B, S, σ2, hr, rs, kb, n, w⟩ => by
    refine ⟨fun m σ' H' => ∃ B2 S' σ2', B.Le B2 ∧ Rel X.K cx S' H' ∧ RelS B2 X.K S' H' σ2' σ' ∧ KeepB B2 S' H' ∧ whlN (fun σ' S' K => wpE T c k σ' S' (one1 (tstK K))) (fun k σ' S' => wpS T c a σ' S' k (rtS X.K cx B D.rt) (nxS X.K cx B D.nx) k) (nxS X.K cx B D.nx) m σ2' S',
      ⟨n, B, S, σ2, .refl, hr, rs, kb, w⟩, ?_⟩
    rintro m σ' H' ⟨B2, S', σ2', l, hr, rs, kb, w⟩
    cases m with
    | zero => exact w.elim
    | succ m =>
      refine stepT hc hr rs.rx w fun b S1 H1 hr1 k1 rs1 w => ?_
      cases b with
      | true =>
        rw [if_pos rfl]
        refine ⟨fun σ' H' => ∃ B2 S' σ2', B.Le B2 ∧ Rel X.K cx S' H' ∧ RelS B2 X.K S' H' σ2' σ' ∧ KeepB B2 S' H' ∧ whlN (fun σ' S' K => wpE T c k σ' S' (one1 (tstK K))) (fun k σ' S' => wpS T c a σ' S' k (rtS X.K cx B D.rt) (nxS X.K cx B D.nx) k) (nxS X.K cx B D.nx) m σ2' S', fun σ' H' z => ⟨m, Nat.lt_succ_self m, z⟩, B2, S1, σ2', hr1, rs.keep k1 hr, kb.keep k1, ?_⟩
        exact wpS_mono hc (fun σ3 S3 z B3 σ4 H4 l3 hr3 rs3 kb3 => ⟨B3, S3, σ3, l.trans l3, hr3, rs3, kb3, z⟩) (fun _ _ => rtS.le l) (fun _ _ => nxS.le l) (fun σ3 S3 z B3 σ4 H4 l3 hr3 rs3 kb3 => ⟨B3, S3, σ3, l.trans l3, hr3, rs3, kb3, z⟩) (w.t rfl)
      | false =>
        rw [if_neg (by decide)]
        exact w.f rfl B2 σ' H1 l hr1 (rs.keep k1 hr) (kb.keep k1)
theorem st_for {tg : Tg} {it a : R} {etg eit : Expr} {ea : List Stmt} {pos : Pos} (hp : PassesOwn (model X.prog X.w) X.A X.env X.xe) (hcalm : X.calm = true) (hi : PI X etg eit (liftI X.K cx it (wpI T c it))) (hg : PG X etg (tgG X.K tg)) (ha : PSs X ea (liftS X.K cx (wpS T c a)))
    (hs : ∀ x, foldedSetIterable eit X.env x = pure x) : PS X (.For etg eit ea [] pos) (liftS X.K cx (wpS T c (.for tg it a))) :=
  psImp (ps_for hp hcalm hi hg ha hs) fun D σ H ⟨B, S, σ2, hr, rs, kb, w⟩ => ⟨S, σ2, hr, rs.rx, wpI_mono hc w fun J S1 w JJ H1 hr1 k1 lt => by
    have rs1 := rs.keep k1 hr
    have kb1 := kb.keep k1
    have l1 := loop_le it kb1 rs1
    have lt : ∀ S' H' σ', Rel X.K cx S' H' → KeepB (loopB B S1 H1 (dem it σ2) σ) S' H' → J.ok σ' S' → ItG X.K cx JJ J.items S' H' := fun S' H' σ' hr' k' o =>
      lt (loopB B S1 H1 (dem it σ2) σ).pd (fun b z1 z2 p => ⟨z1, z2, fun ⟨i, x, e, ow, e'⟩ => dem_src it σ2 rs1.dist (p ⟨i, x, dem_own e ow, ow, e'⟩) ⟨i, x, e, ow, e'⟩⟩) S' H' σ' hr' (fun b z => ⟨(k'.st b z).1, (k'.st b z).2.1⟩) o
    refine ⟨fun i m σ' H' => ∃ B2 S' σ2', (loopB B S1 H1 (dem it σ2) σ).Le B2 ∧ Rel X.K cx S' H' ∧ RelS B2 X.K S' H' σ2' σ' ∧ KeepB B2 S' H' ∧ m = J.items.length - i ∧ i ≤ J.items.length ∧
      forL tg J.ok (fun k σ' S' => wpS T c a σ' S' k (rtS X.K cx B D.rt) (nxS X.K cx B D.nx) k) (nxS X.K cx B D.nx) (J.items.drop i) σ2' S',
      ⟨J.items.length, _, S1, dem it σ2, .refl, hr1, loop_rs it rs1, loop_kb it kb1, rfl, Nat.zero_le _, w⟩, ?_⟩
    rintro i m σ' H' ⟨B2, S', σ2', l2, hr', rs', kb', rfl, hle, w⟩
    have l := l1.trans l2
    by_cases hlt : i < J.items.length
    · right
      rw [List.drop_eq_getElem_cons hlt] at w
      obtain ⟨ok, w⟩ := w
      obtain ⟨hgo, hy⟩ := (lt S' H' σ2' hr' (kb'.le l2) ok i).1 _ (List.getElem?_eq_getElem hlt)
      refine ⟨hgo, fun σ' H' => ∃ B2 S' σ2', (loopB B S1 H1 (dem it σ2) σ).Le B2 ∧ Rel X.K cx S' H' ∧ RelS B2 X.K S' H' σ2' σ' ∧ KeepB B2 S' H' ∧
        forL tg J.ok (fun k σ' S' => wpS T c a σ' S' k (rtS X.K cx B D.rt) (nxS X.K cx B D.nx) k) (nxS X.K cx B D.nx) (J.items.drop (i + 1)) σ2' S', fun σ' H' ⟨B2, S', σ2', h1, h2, h3, h4, h5⟩ => ⟨J.items.length - (i + 1), by omega, B2, S', σ2', h1, h2, h3, h4, rfl, hlt, h5⟩, fun x H5 y => ?_⟩
      obtain ⟨hr5, k5, rx⟩ := hy x H5 y
      refine bindT_ok (fun _ σa σb => RelS B2 X.K S' H5 σa σb) (fun i is x v σa σb rv p => p.setD rv) rx (rs'.keep k5 hr') w fun σa σb rsa w => ?_
      exact ⟨B2, S', σa, hr5, rsa, kb'.keep k5, wpS_mono hc (fun σ3 S3 z B3 σ4 H4 l3 hr3 rs3 kb3 => ⟨B3, S3, σ3, l2.trans l3, hr3, rs3, kb3, z⟩) (fun _ _ => rtS.le l) (fun _ _ => nxS.le l) (fun σ3 S3 z B3 σ4 H4 l3 hr3 rs3 kb3 => ⟨B3, S3, σ3, l2.trans l3, hr3, rs3, kb3, z⟩) w⟩
    · have e : i = J.items.length := by omega
      subst e
      rw [List.drop_length] at w
      exact .inl ⟨(lt S' H' σ2' hr' (kb'.le l2) w.1 _).2 rfl, w.2 B2 σ' H' l hr' rs' kb'⟩⟩
theorem st_ret {e : R} {ee : Expr} {pos : Pos} (he : PE X ee (liftE X.K cx (wpE T c e))) : PS X (.Return (some ee) pos) (liftS X.K cx (wpS T c (.ret e))) :=
  psImp (ps_ret he) fun D σ H ⟨B, S, σ2, hr, rs, kb, w⟩ => stepSE hc hr rs kb w fun x S1 v H1 hr1 k1 rs1 kb1 r1 w => by
    obtain ⟨hl, w⟩ := stor_of w
    exact w B v H1 .refl hr1 kb1 r1.1 fun o => let ⟨a, e, n⟩ := r1.2 o; ⟨a, e, kb.hn a n⟩
theorem st_retn {pos : Pos} : PS X (.Return none pos) (liftS X.K cx (wpS T c .retn)) := psImp ps_retN fun D σ H ⟨B, S, σ2, hr, rs, kb, w⟩ => w B _ H .refl hr kb rfl fun e => by cases e
theorem st_retv {i : Nat} {x : Str} {pos p : Pos} (hN : X.N[i]? = some x) (hv : Vis X.env.scope x) (h1 : (x == ("__debug__" : Str)) = false) (h2 : (x == ("__classdict__" : Str)) = false) : PS X (.Return (some (.Name x p)) pos) (liftS X.K cx (wpS T c (.retv i))) :=
  psImp (ps_ret (pe_var hN hv h1 h2)) fun D σ H ⟨B, S, σ2, hr, rs, kb, x, e, w⟩ => by
    obtain ⟨v, e', r⟩ := rs.rx.2 i x e
    obtain ⟨hl, w⟩ := stor_of w
    refine ⟨v, e', w B v H .refl hr kb r fun o => ?_⟩
    cases x with
    | vl ds => obtain ⟨a, us, rfl, _⟩ := r; exact ⟨a, rfl, (rs.ow i _ a e rfl e').2.1⟩
    | vd ds => obtain ⟨a, us, rfl, _⟩ := r; exact ⟨a, rfl, (rs.ow i _ a e rfl e').2.1⟩
    | _ => cases o
end
end DL

/-! DL12b: dicts walked: locks, keys, items. -/
namespace DL
open PySem L2 PySem.Spec PyProof.Rows
section
variable {K : Frag} {cx : Cls2} {S : Hs} {H : Hp}
theorem lock_on {a : Addr} {kvs : List (D × D)} (hr : Rel K cx S H) (e : S a = some (.dic kvs)) : ∃ ks, H a = some (.dK ks) ∧ ∀ od, Rel K cx (su S a (.fdc kvs (.frz od (.dK ks)))) (upd H a (.frz od (.dK ks))) ∧ Keep S (su S a (.fdc kvs (.frz od (.dK ks)))) H (upd H a (.frz od (.dK ks))) := by
  obtain ⟨ks, h, r⟩ := hr a _ e
  refine ⟨ks, h, fun od => ?_⟩
  have t : TupS K H (upd H a (.frz od (.dK ks))) := tupS_upd fun o z => by rw [h] at z; cases z; rfl
  refine ⟨hr.upd1 t ⟨upd_same, od, ks, rfl, r.keep t⟩, fun b o z n => ?_, fun b z => ?_⟩
  · have ne : b ≠ a := fun q => by subst q; rw [e] at n; cases n
    rw [upd_ne ne, su_ne ne]
    exact ⟨z, n⟩
  · by_cases q : b = a
    · subst q; rw [upd_same] at z; cases z
    · rwa [upd_ne q] at z
theorem lock_off {a : Addr} {kvs : List (D × D)} {od : Obj} {ks : List (Key × V)} (hr : Rel K cx S H) (e : S a = some (.fdc kvs (.frz od (.dK ks)))) : H a = some (.frz od (.dK ks)) ∧ Rel K cx (su S a (.dic kvs)) (upd H a (.dK ks)) ∧ Keep S (su S a (.dic kvs)) H (upd H a (.dK ks)) := by
  obtain ⟨h, o, ks', e', r⟩ := hr a _ e
  cases e'
  have t : TupS K H (upd H a (.dK ks)) := tupS_upd fun o z => by rw [h] at z; cases z; rfl
  refine ⟨h, hr.upd1 t ⟨ks, upd_same, r.keep t⟩, fun b o z n => ?_, fun b z => ?_⟩
  · have ne : b ≠ a := fun q => by subst q; rw [e] at n; cases n
    rw [upd_ne ne, su_ne ne]
    exact ⟨z, n⟩
  · by_cases q : b = a
    · subst q; rw [upd_same] at z; cases z
    · rwa [upd_ne q] at z
end
section
variable {X : Cx} {T : Tbl} {c : Nat → List Vx → Hs → VK2 → Prop} {cx : Cls2} (hc : CalMono c)
include hc
theorem snd_lockE {e : R} {ee : Expr} (he : PE X ee (liftE X.K cx (wpE T c e))) : PE X ee (liftE X.K cx (wpE T c (.lockE e))) :=
  peImp (pe_lock he) fun σ H Q ⟨S, σ2, hr, rs, a, kvs, ea, w⟩ => by
    obtain ⟨ks, h, lk⟩ := lock_on hr ea
    refine ⟨a, .dK ks, h, by simp [Mut], fun od => ?_⟩
    obtain ⟨hr0, k0⟩ := lk od
    refine ⟨_, σ2, hr0, rs.keep k0 hr, wpE_mono hc (w _) fun xs S' ⟨e1, x, ex, q⟩ => ⟨x, ex, fun v H' hr' k' r' => ?_⟩⟩
    obtain ⟨h1, hr1, k1⟩ := lock_off hr' e1
    exact ⟨h1, q v _ hr1 ((k0.trans k').trans k1) ⟨r'.1.keep k1 hr', fun o => let ⟨b, e2, n⟩ := r'.2 o; ⟨b, e2, k0.up b n⟩⟩⟩
theorem st_lock {st : R} {es : Stmt} (h : PS X es (liftS X.K cx (wpS T c st))) : PS X es (liftS X.K cx (wpS T c (.lock st))) :=
  psImp (ps_lock h) fun D σ H ⟨B, S, σ2, hr, rs, kb, a, kvs, ea, w⟩ => by
    obtain ⟨ks, h, lk⟩ := lock_on hr ea
    refine ⟨a, .dK ks, h, by simp [Mut], fun od => ?_⟩
    obtain ⟨hr0, k0⟩ := lk od
    refine ⟨B, _, σ2, hr0, rs.keep k0 hr, kb.keep k0, wpS_mono hc (fun σ' S' ⟨e1, q⟩ B' σ H' l hr' rs' kb' => ?_) (fun x S' ⟨e1, q⟩ B' v H' l hr' kb' r' o => ?_) (fun σ' S' ⟨e1, q⟩ B' σ H' l hr' rs' kb' => ?_) (fun σ' S' ⟨e1, q⟩ B' σ H' l hr' rs' kb' => ?_) (w _)⟩
    · obtain ⟨h1, hr1, k1⟩ := lock_off hr' e1
      exact ⟨h1, q B' σ _ l hr1 (rs'.keep k1 hr') (kb'.keep k1)⟩
    · obtain ⟨h1, hr1, k1⟩ := lock_off hr' e1
      exact ⟨h1, q B' v _ l hr1 (kb'.keep k1) (r'.keep k1 hr') o⟩
    · obtain ⟨h1, hr1, k1⟩ := lock_off hr' e1
      exact ⟨h1, q B' σ _ l hr1 (rs'.keep k1 hr') (kb'.keep k1)⟩
    · obtain ⟨h1, hr1, k1⟩ := lock_off hr' e1
      exact ⟨h1, q B' σ _ l hr1 (rs'.keep k1 hr') (kb'.keep k1)⟩
omit hc in
theorem dicR_get {K : Frag} {H : Hp} : ∀ {kvs : List (D × D)} {ks : List (Key × V)} {i : Nat} {p : D × D}, DicR K H kvs ks → kvs[i]? = some p → ∃ k v, ks[i]? = some (k, v) ∧ KeyR p.1 k ∧ RepV K H p.2 v
  | _, _, i, p, .nil, e => by simp at e
  | q :: kvs, (k, v) :: ks, 0, p, .cons h t, e => by simp at e; subst e; exact ⟨k, v, rfl, h.1, h.2⟩
  | q :: kvs, b :: ks, i + 1, p, .cons h t, e => by
    obtain ⟨k, v, h1, h2⟩ := dicR_get (i := i) t (by simpa using e)
    exact ⟨k, v, by simpa using h1, h2⟩
omit hc in
theorem keyR_rep {K : Frag} {H : Hp} {d : D} {k : Key} (h : KeyR d k) : RepV K H d (kV k) := by
  cases d <;> first | (cases h; rfl) | exact h.elim
theorem walk_itk {a : R} {ea tg : Expr} (ha : PE X ea (liftE X.K cx (wpE T c a))) : PI X tg ea (liftI X.K cx (.itk a) (wpI T c (.itk a))) :=
  piImp hc (pi_keys ha) fun σ H R ⟨S, σ2, hr, rs, w⟩ => stepE hc hr rs w fun x S1 v H1 hr1 k1 rs1 r1 ⟨b, kvs, z, ex, eb, w⟩ => by
    subst ex
    cases r1.1
    obtain ⟨h, o, ks, rfl, rd⟩ := hr1 b _ eb
    refine ⟨b, o, rfl, .inl ⟨ks, h, w _ H1 hr1 k1 fun Pz hz S' H' σ' hr' k' ok i => ?_⟩⟩
    obtain ⟨h', o', ks', e', rd'⟩ := hr' b _ ok
    cases e'
    have hl : kvs.length = ks.length := DicR.length rd'
    refine ⟨fun d e => ?_, fun e => ⟨h', by rw [← hl]; simpa using Nat.le_of_eq e⟩⟩
    rw [List.getElem?_map] at e
    obtain ⟨p, e1, rfl⟩ := Option.map_eq_some_iff.mp e
    obtain ⟨k, v, h1, h2, h3⟩ := dicR_get rd' e1
    refine ⟨⟨h', (List.getElem?_eq_some_iff.mp h1).1⟩, fun x H2 y => ?_⟩
    obtain ⟨rfl, k', v', h4, rfl⟩ := y
    rw [h1] at h4; cases h4
    exact ⟨hr', .refl, keyR_rep h2⟩
theorem walk_itms {a : R} {ea : Expr} {elts : List Expr} {kk : Nat} {tpos apos cpos : Pos} (ha : PE X ea (liftE X.K cx (wpE T c a))) (hb : attributeBase ea "items" X.env (eval ea X.env) = eval ea X.env) (hl : (apos.endLine == cpos.line) = true) :
    PI X (.Tuple elts kk tpos) (.Call (.Attribute ea "items" apos) [] [] cpos) (liftI X.K cx (.itms a) (wpI T c (.itms a))) :=
  piImp hc (pi_items ha hb hl) fun σ H R ⟨S, σ2, hr, rs, w⟩ => stepE hc hr rs w fun x S1 v H1 hr1 k1 rs1 r1 ⟨b, kvs, z, ex, eb, w⟩ => by
    subst ex
    cases r1.1
    obtain ⟨h, o, ks, rfl, rd⟩ := hr1 b _ eb
    refine ⟨b, o, ks, rfl, h, w _ H1 hr1 k1 fun Pz hz S' H' σ' hr' k' ok i => ?_⟩
    obtain ⟨h', o', ks', e', rd'⟩ := hr' b _ ok
    cases e'
    have hl : kvs.length = ks.length := DicR.length rd'
    refine ⟨fun d e => ?_, fun e => ⟨h', by rw [← hl]; simpa using Nat.le_of_eq e⟩⟩
    rw [List.getElem?_map] at e
    obtain ⟨p, e1, rfl⟩ := Option.map_eq_some_iff.mp e
    obtain ⟨k, v, h1, h2, h3⟩ := dicR_get rd' e1
    refine ⟨⟨h', (List.getElem?_eq_some_iff.mp h1).1⟩, fun x H2 y => ?_⟩
    obtain ⟨T', k', v', h4, rfl, n, rfl⟩ := y
    rw [h1] at h4; cases h4
    exact pair_new hr' n (keyR_rep h2) h3
end
end DL

/-! DL12n: dicts of tuples: new, locked, walked; loans; slices by 1, -1. -/
namespace DL
open PySem L2 PySem.Spec PyProof.Rows
section
variable {K : Frag} {cx : Cls2} {S : Hs} {H : Hp}
theorem lockN_on {a : Addr} {kvs : List (D × D)} (hr : Rel K cx S H) (e : S a = some (.dn kvs)) : ∃ u xs, H a = some u ∧ Mut (some u) ∧ ∀ od, Rel K cx (su S a (.fdn kvs (.frz od u) xs)) (upd H a (.frz od u)) ∧ Keep S (su S a (.fdn kvs (.frz od u) xs)) H (upd H a (.frz od u)) := by
  obtain ⟨xs, h, r⟩ := hr a _ e
  refine ⟨_, xs, h, True.intro, fun od => ?_⟩
  have t : TupS K H (upd H a (.frz od (dnO cx.w a xs))) := tupS_upd fun o z => by rw [h] at z; cases z; rfl
  refine ⟨hr.upd1 t ⟨upd_same, od, rfl, r.keep t⟩, fun b o z n => ?_, fun b z => ?_⟩
  · have ne : b ≠ a := fun q => by subst q; rw [e] at n; cases n
    rw [upd_ne ne, su_ne ne]
    exact ⟨z, n⟩
  · by_cases q : b = a
    · subst q; rw [upd_same] at z; cases z
    · rwa [upd_ne q] at z
theorem lockN_off {a : Addr} {kvs : List (D × D)} {od : Obj} {u : HO} {xs : List NE} (hr : Rel K cx S H) (e : S a = some (.fdn kvs (.frz od u) xs)) : H a = some (.frz od u) ∧ Rel K cx (su S a (.dn kvs)) (upd H a u) ∧ Keep S (su S a (.dn kvs)) H (upd H a u) := by
  obtain ⟨h, o, e', r⟩ := hr a _ e
  cases e'
  have t : TupS K H (upd H a (dnO cx.w a xs)) := tupS_upd fun o z => by rw [h] at z; cases z; rfl
  refine ⟨h, hr.upd1 t ⟨xs, upd_same, r.keep t⟩, fun b o z n => ?_, fun b z => ?_⟩
  · have ne : b ≠ a := fun q => by subst q; rw [e] at n; cases n
    rw [upd_ne ne, su_ne ne]
    exact ⟨z, n⟩
  · by_cases q : b = a
    · subst q; rw [upd_same] at z; cases z
    · rwa [upd_ne q] at z
theorem one_of {α : Type} {xs : List α} (h : xs.length = 1) : ∃ x, xs = [x] := List.length_eq_one_iff.mp h
/-- a list is lent: it goes out of sight, and comes back -/
theorem lend_on {a : Addr} {ds : List D} (hr : Rel K cx S H) (e : S a = some (.lst ds)) : ∃ vs, H a = some (.lst vs) ∧ RepL K H ds vs ∧ Rel K cx (mn a S) H := by
  obtain ⟨vs, h, r⟩ := hr a _ e
  refine ⟨vs, h, r, fun b o q => ?_⟩
  by_cases z : b = a
  · subst z; rw [mn_same] at q; cases q
  · rw [mn_ne z] at q; exact hr b o q
end
section
variable {X : Cx} {T : Tbl} {c : Nat → List Vx → Hs → VK2 → Prop} {cx : Cls2} (hc : CalMono c)
include hc
theorem snd_lockEN {e : R} {ee : Expr} (he : PE X ee (liftE X.K cx (wpE T c e))) : PE X ee (liftE X.K cx (wpE T c (.lockEN e))) :=
  peImp (pe_lock he) fun σ H Q ⟨S, σ2, hr, rs, a, kvs, ea, w⟩ => by
    obtain ⟨u, ns, h, mu, lk⟩ := lockN_on hr ea
    refine ⟨a, u, h, mu, fun od => ?_⟩
    obtain ⟨hr0, k0⟩ := lk od
    refine ⟨_, σ2, hr0, rs.keep k0 hr, wpE_mono hc (w _ ns) fun xs S' ⟨e1, x, ex, q⟩ => ⟨x, ex, fun v H' hr' k' r' => ?_⟩⟩
    obtain ⟨h1, hr1, k1⟩ := lockN_off hr' e1
    exact ⟨h1, q v _ hr1 ((k0.trans k').trans k1) ⟨r'.1.keep k1 hr', fun o => let ⟨b, e2, n⟩ := r'.2 o; ⟨b, e2, k0.up b n⟩⟩⟩
theorem snd_lend {i : Nat} {e : R} {ee : Expr} (he : PE X ee (liftE X.K cx (wpE T c e))) : PE X ee (liftE X.K cx (wpE T c (.lend i e))) :=
  peImp he fun σ H Q ⟨S, σ2, hr, rs, a, ds, ei, ea, w⟩ => by
    obtain ⟨vs, h, r, hr0⟩ := lend_on hr ea
    obtain ⟨v, hv, rv⟩ := rs.2 i _ ei
    cases rv
    refine ⟨mn a S, σ2.set i (some (.bw ds)), hr0, ⟨by rw [List.length_set]; exact rs.1, fun j x ej => ?_⟩, wpE_mono hc w fun xs S' ⟨hn, hn1, qq⟩ => (let ⟨x, ex⟩ := one_of hn1; ⟨x, ex, fun v H' hr' k' r' => ?_⟩)⟩
    · by_cases z : i = j
      · subst z
        have hi : i < σ2.length := (List.getElem?_eq_some_iff.mp ei).1
        rw [List.getElem?_set_self hi] at ej
        cases ej
        exact ⟨_, hv, a, vs, rfl, h, mn_same, r⟩
      · rw [List.getElem?_set_ne z] at ej
        obtain ⟨u, hu, ru⟩ := rs.2 j x ej
        refine ⟨u, hu, ?_⟩
        have mz : ∀ b, S b = none → mn a S b = none := fun b n => by
          by_cases z : b = a
          · subst z; exact mn_same
          · rw [mn_ne z]; exact n
        cases x with
        | d y => exact ru
        | vl es => obtain ⟨b, us, e, h1, n, q⟩ := ru; exact ⟨b, us, e, h1, mz b n, q⟩
        | bw es => obtain ⟨b, us, e, h1, n, q⟩ := ru; exact ⟨b, us, e, h1, mz b n, q⟩
        | vd es => obtain ⟨b, us, e, h1, n, q⟩ := ru; exact ⟨b, us, e, h1, mz b n, q⟩
        | bd es => obtain ⟨b, us, e, h1, n, q⟩ := ru; exact ⟨b, us, e, h1, mz b n, q⟩
        | fz es =>
          obtain ⟨b, us, e, h1, q⟩ := ru
          exact ⟨b, us, e, h1.imp (fun ⟨o, h2, n⟩ => ⟨o, h2, mz b n⟩) id, q⟩
        | st es => exact ru.elim
    · subst ex
      obtain ⟨h', n'⟩ := k'.kp a _ h mn_same
      have t := k'.tups hr0
      have hr1 : Rel X.K cx (su S' a (.lst ds)) H' := hr'.box ⟨vs, h', r.keep t⟩
      have k1 : Keep S (su S' a (.lst ds)) H H' := ⟨fun b o e n => by
        have ne : b ≠ a := fun z => by subst z; rw [ea] at n; cases n
        obtain ⟨h1, h2⟩ := k'.kp b o e (by rw [mn_ne ne]; exact n)
        exact ⟨h1, by rw [su_ne ne]; exact h2⟩, k'.up⟩
      have hx : noLoan x = true := by simpa using hn
      obtain ⟨x', ex', q⟩ := qq n'
      cases ex'
      refine q v H' hr1 k1 ⟨?_, r'.2⟩
      have nb : own x = true → ∀ b, v = .ref b → b ≠ a := fun o b eb z => by
        obtain ⟨b', e1, e2⟩ := r'.2 o
        subst z
        rw [eb] at e1; cases e1
        rw [h] at e2; cases e2
      cases x with
      | d y => exact r'.1
      | vl es => obtain ⟨b, us, e, h1, n, q⟩ := r'.1; exact ⟨b, us, e, h1, by rw [su_ne (nb rfl b e)]; exact n, q⟩
      | vd es => obtain ⟨b, us, e, h1, n, q⟩ := r'.1; exact ⟨b, us, e, h1, by rw [su_ne (nb rfl b e)]; exact n, q⟩
      | _ => cases hx
theorem snd_dctn (hw : cx.w = X.w) {pos : Pos} : PE X (.Dict [] [] pos) (liftE X.K cx (wpE T c .dctn)) :=
  peImp pe_dn fun σ H Q ⟨S, σ2, hr, rs, w⟩ => fun p n m => by
    obtain ⟨x, e, q⟩ := w p (hr.free n)
    cases e
    have t : TupS X.K H (upd H p (dnO X.w p [])) := tupS_new n
    refine q _ _ (hr.upd1 t ⟨[], by rw [hw]; exact upd_same, .nil, List.nodup_nil, Nat.zero_le _, m⟩) ⟨fun b o e z => ⟨by rw [upd_ne (ne_of_none e n)]; exact e, ?_⟩, (Keep.new (S := S) n).up⟩ ⟨rfl, fun e => by cases e⟩
    rw [su_ne (ne_of_none e n)]; exact z
omit hc in
/-- {k: v}, the key a tuple -/
theorem pe_dn1 {ek ev : Expr} {tk tv : TE} {pos : Pos} (hu : X.A.units + 60 < cLine) (hk : PE X ek tk) (hv : PE X ev tv) : PE X (.Dict [some ek] [ev] pos) (fun σ H Q => ∀ p, H p = none → (p == sysModules) = false → tk σ (upd H p (dnO X.w p [])) fun x H1 => tv σ H1 fun y H2 =>
    H2 p = some (dnO X.w p []) ∧ ∃ kd dd, keyN kd = true ∧ RepV X.K H2 kd x ∧ RepV X.K H2 dd y ∧ ∀ xs, DnOk X.K (upd H2 p (dnO X.w p xs)) p [(kd, dd)] xs → Q (.ref p) (upd H2 p (dnO X.w p xs))) := ⟨fun pins s σ H Q I h => by
  have hb : sysModules < s.heap.objs.size := Inv.big I
  have hm : (s.heap.objs.size == sysModules) = false := beq_eq_false_iff_ne.mpr (Nat.ne_of_gt hb)
  have I1 := I.laid (a := s.heap.objs.size) (o := dnO X.w s.heap.objs.size []) (h' := s.heap.push { cls := .type "dict", data := .dict #[] }) (t' := s.toks) (fun _ _ q => Heap.get?_push_of_some _ q) (Nat.le_refl _) (dn_okO ⟨_, #[], 0, Heap.get?_push_size _ rfl, ⟨rfl, rfl, rfl⟩, rfl, rfl⟩)
  have hn := pairTrees_length [some ek] [ev] X.env pos rfl rfl
  rw [arm_eval_Dict, zip_pairTrees [some ek] [ev] X.env pos rfl rfl, dictDisplay_pairs _ (fun z => by rw [z] at hn; cases hn) (by rw [hn]; exact Nat.le_of_ble_eq_true rfl)]
  refine wpAny_bind (wpAny_standAt (wpAny_bind (wpAny_subDictH (knd := nestedKind X.prog X.w) (show X.A.units + 8 < cLine by omega) (by rw [hn]; exact Nat.le_of_ble_eq_true rfl) ?_)))
  refine pairTrees_cons_walk (thn (hk.run pins _ σ _ _ I1 (h _ (I.hok.fresh (Nat.le_refl _)) hm)) fun u s1 ⟨x, H1, I2, rx, q1⟩ => thn (hv.run pins s1 σ H1 _ I2 q1) fun u2 s2 ⟨y, H2, I3, ry, hp, kd, dd, hkd, rk, rd, q2⟩ => pairTrees_nil_walk ?_)
  obtain ⟨b, rfl, rfl, hki⟩ := key_is I3 hkd rk rx
  have ok0 : DnOk X.K H2 s.heap.objs.size [] [] := ⟨.nil, List.nodup_nil, Nat.zero_le _, hm⟩
  refine ⟨[(nkD kd, b, u2)], ⟨rfl, rfl, hki, trivial⟩, dn_of I3 (.inl hp) ok0, fun h' tk' dd' hs => wpAny_pure ?_⟩
  obtain ⟨o, es, ep, h1, h2, h3, h4, _, h5⟩ := dd'
  have p : dnP X.w s.heap.objs.size (storedH [] (nkD kd) b u2) h' := ⟨o, es, ep, h1, h2, h3, h4⟩
  refine ⟨.ref s.heap.objs.size, _, d_write (t' := tk') I3 (by rw [hp]; exact True.intro) hs ⟨o, h1⟩ (dn_okO p), rfl, q2 _ ?_⟩
  exact DnOk.keep (dn_tups hp) ⟨.cons ⟨hkd, rfl, rk, y, ry, rd⟩ .nil, h5, by rw [sizeLine_eq]; exact Nat.le_of_ble_eq_true rfl, hm⟩⟩
theorem snd_dctn1 (hw : cx.w = X.w) (hu : X.A.units + 60 < cLine) {k v : R} {ek ev : Expr} {pos : Pos} (hk : PE X ek (liftE X.K cx (wpE T c k))) (hv : PE X ev (liftE X.K cx (wpE T c v))) : PE X (.Dict [some ek] [ev] pos) (liftE X.K cx (wpE T c (.dctn1 k v))) :=
  peImp (pe_dn1 hu hk hv) fun σ H Q ⟨S, σ2, hr, rs, w⟩ => fun p n m => by
    have k0 : Keep S S H (upd H p (dnO X.w p [])) := Keep.new n
    have hr0 : Rel X.K cx S (upd H p (dnO X.w p [])) := hr.upd0 (hr.free n) (tupS_new n)
    refine stepE hc hr0 (rs.keep k0 hr) w fun x S1 xv H1 hr1 k1 rs1 r1 w => stepE hc hr1 rs1 w fun y S2 yv H2 hr2 k2 rs2 r2 w => ?_
    obtain ⟨d, S3, ⟨kd, ex, hkd, w'⟩, hr3, k3, rd, _⟩ := rel_box hc hr2 k2 r2 w
    subst ex
    obtain ⟨hp1, sp1⟩ := (k1.trans k3).kp p _ upd_same (hr.free n)
    refine ⟨hp1, kd, d, hkd, RepV.keep (k3.tups hr1) _ _ r1.1, rd, fun xs ok => ?_⟩
    obtain ⟨x', ex', q⟩ := w' p sp1
    cases ex'
    refine q _ _ (hr3.upd1 (dn_tups hp1) ⟨xs, by rw [hw]; exact upd_same, ok⟩) ⟨fun b o e' nb => ?_, fun b e' => ?_⟩ ⟨rfl, fun e => by cases e⟩
    · have ne : b ≠ p := fun z => by subst z; rw [n] at e'; cases e'
      obtain ⟨g1, g2⟩ := (k0.trans (k1.trans k3)).kp b o e' nb
      exact ⟨by rw [upd_ne ne]; exact g1, by rw [su_ne ne]; exact g2⟩
    · by_cases ne : b = p
      · subst ne; exact n
      · rw [upd_ne ne] at e'
        exact (k0.trans (k1.trans k3)).up b e'
omit hc in
/-- what is told is locked from then on -/
theorem pe_lockV {e : Expr} {t : TE} (h : PE X e t) : PE X e (fun σ H Q => t σ H fun x H1 => ∃ d u, x = .ref d ∧ H1 d = some u ∧ Mut (some u) ∧ ∀ od, Q (.ref d) (upd H1 d (.frz od u))) := ⟨fun pins s σ H Q I hw => by
  refine thn (h.run pins s σ _ _ I hw) fun v s1 ⟨x, H1, I2, r, d, u, ex, hd, mu, q⟩ => ?_
  subst ex
  obtain ⟨od, I3⟩ := I2.lock hd mu
  exact ⟨.ref d, _, I3, r, q od⟩⟩
theorem snd_lockV {e : R} {ee : Expr} (he : PE X ee (liftE X.K cx (wpE T c e))) : PE X ee (liftE X.K cx (wpE T c (.lockV e))) :=
  peImp (pe_lockV he) fun σ H Q ⟨S, σ2, hr, rs, w⟩ => stepE hc hr rs w fun x S1 v H1 hr1 k1 rs1 r1 ⟨a, kvs, ex, ea, w⟩ => by
    subst ex
    cases r1.1
    obtain ⟨u, ns, h, mu, lk⟩ := lockN_on hr1 ea
    refine ⟨a, u, rfl, h, mu, fun od => ?_⟩
    obtain ⟨hr2, k2⟩ := lk od
    obtain ⟨x', ex', q⟩ := w _ ns
    cases ex'
    exact q _ _ hr2 (k1.trans k2) ⟨rfl, fun e => by cases e⟩
theorem st_lockN {st : R} {es : Stmt} (h : PS X es (liftS X.K cx (wpS T c st))) : PS X es (liftS X.K cx (wpS T c (.lockN st))) :=
  psImp (ps_lock h) fun D σ H ⟨B, S, σ2, hr, rs, kb, a, kvs, ea, w⟩ => by
    obtain ⟨u, ns, h, mu, lk⟩ := lockN_on hr ea
    refine ⟨a, u, h, mu, fun od => ?_⟩
    obtain ⟨hr0, k0⟩ := lk od
    refine ⟨B, _, σ2, hr0, rs.keep k0 hr, kb.keep k0, wpS_mono hc (fun σ' S' ⟨e1, q⟩ B' σ H' l hr' rs' kb' => ?_) (fun x S' ⟨e1, q⟩ B' v H' l hr' kb' r' o => ?_) (fun σ' S' ⟨e1, q⟩ B' σ H' l hr' rs' kb' => ?_) (fun σ' S' ⟨e1, q⟩ B' σ H' l hr' rs' kb' => ?_) (w _ ns)⟩
    · obtain ⟨h1, hr1, k1⟩ := lockN_off hr' e1
      exact ⟨h1, q B' σ _ l hr1 (rs'.keep k1 hr') (kb'.keep k1)⟩
    · obtain ⟨h1, hr1, k1⟩ := lockN_off hr' e1
      exact ⟨h1, q B' v _ l hr1 (kb'.keep k1) (r'.keep k1 hr') o⟩
    · obtain ⟨h1, hr1, k1⟩ := lockN_off hr' e1
      exact ⟨h1, q B' σ _ l hr1 (rs'.keep k1 hr') (kb'.keep k1)⟩
    · obtain ⟨h1, hr1, k1⟩ := lockN_off hr' e1
      exact ⟨h1, q B' σ _ l hr1 (rs'.keep k1 hr') (kb'.keep k1)⟩
/-! ### the keys walked -/
omit hc in
theorem Inv.frzN {pins : List (Addr × Obj)} {σ : L2.St} {H : Hp} {s : Shared} {d : Addr} {o : Obj} {w : World} {xs : List NE} (I : Inv X pins σ H s) (h : H d = some (.frz o (dnO w d xs))) :
    s.heap.get? d = some o ∧ o.ExactDict ∧ ∃ (es : Array DictEntry) (ep : Nat), o.data = .dict es ep ∧ es.size = xs.length ∧ ∀ (i : Nat) (y : NE), xs[i]? = some y → ∃ en : DictEntry, es[i]? = some en ∧ en.key = .ref y.2.1 := by
  obtain ⟨hd, ⟨o', es, ep, h1, h2, h3, h4⟩, _⟩ := I.hok d _ h
  rw [hd] at h1
  cases h1
  refine ⟨hd, h2, es, ep, h3, by rw [← Array.length_toList, h4, List.length_map], fun i y e => ⟨entN w y, ?_, rfl⟩⟩
  rw [← Array.getElem?_toList, h4, List.getElem?_map, e]; rfl
def Itkn (w : World) (d : Addr) (o : Obj) (xs : List NE) : It :=
  ⟨fun i H => H d = some (.frz o (dnO w d xs)) ∧ i < xs.length, fun i H x H' => H' = H ∧ ∃ y : NE, xs[i]? = some y ∧ x = .ref y.2.1, fun i H => H d = some (.frz o (dnO w d xs)) ∧ xs.length ≤ i⟩
omit hc in
theorem turn_keysN {P : Program} {w : World} {K : PySem.W.Frag} {tg : Expr} {w' : World} {d : Addr} {o : Obj} {es : Array DictEntry} {ep : Nat} {xs : List NE} (it : Addr) (hod : o.data = .dict es ep) : Turn P w K tg (Itkn w' d o xs) [it] it (fun i h => h.IsKeyIter it d i xs.length ep) where
  mem := by simp
  obj := fun i h st b hb => by
    have e : b = it := by simpa using hb
    subst e
    obtain ⟨oi, e, c, dd⟩ := st
    exact ⟨oi, e, fun v z => by rw [dd] at z; cases z⟩
  keep := fun i h h' st k => st.at fun oi e => k it (by simp) oi e
  item := by
    intro X hP hw hK hc i pins s σ H E I hf st hg
    subst hP hw hK
    obtain ⟨hd, hi⟩ := hg
    obtain ⟨f0, f1, f2, f3, f4, f5⟩ := hf it (by simp)
    obtain ⟨hgd, hx, es', ep', hdt, hsz, ent⟩ := Inv.frzN I hd
    obtain ⟨rfl, rfl⟩ := dict_ep hod hdt
    obtain ⟨y, hy⟩ : ∃ y, xs[i]? = some y := ⟨xs[i], List.getElem?_eq_getElem hi⟩
    obtain ⟨en, hen, hkey⟩ := ent i y hy
    refine next_key_item st hgd hdt hsz hen fun h' st' sb => ?_
    have I1 : Inv X pins σ H { s with heap := h' } := I.turned (t' := s.toks) (fun b ob hb e => (sb.2 b hb).trans e) f0 f1 f3 f4 f5
    obtain ⟨oi, e, c, dd⟩ := id st'
    exact ⟨en.key, rfl, go_of (s := { s with heap := h' }) e c dd (by decide) ⟨.ref y.2.1, H, I1, hkey, ⟨rfl, y, hy, rfl⟩, st', fun b hb => (hf b hb).1⟩⟩
  done := by
    intro X hP hw hK hc i pins s σ H E I hf st hg
    subst hP hw hK
    obtain ⟨hd, hi⟩ := hg
    obtain ⟨f0, f1, f2, f3, f4, f5⟩ := hf it (by simp)
    obtain ⟨hgd, hx, es', ep', hdt, hsz, ent⟩ := Inv.frzN I hd
    obtain ⟨rfl, rfl⟩ := dict_ep hod hdt
    exact next_key_end (I.ok.hd hc) st hgd hdt hsz hi fun h' eb => ⟨rfl, I.turned (t' := s.toks) (fun b ob hb e => eb b ob hb e) f0 f1 f3 f4 f5⟩
  self := fun A i s Q E st h => by
    refine wpAny_pyIter_slot st.typeIs PySem.F.slot_dict_keyiterator_iter (wpAny_call_entry PySem.F.slot_dict_keyiterator_iter st.typeIs PySem.F.entry_dict_keyiterator_iter ?_ (PySem.F.args_dict_keyiterator_iter_1 _))
    show wpAny _ _ (ret (.ref it)) _ _ s
    exact wpAny_pure ⟨_, rfl, "dict_keyiterator", _, st.typeIs, PySem.F.slot_dict_keyiterator_next.lookup, h⟩
def iKeysN (td : TE) : TI := fun σ H R => td σ H fun x H1 => ∃ d o w xs, x = .ref d ∧ (d == sysModules) = false ∧ H1 d = some (.frz o (dnO w d xs)) ∧ R (Itkn w d o xs) H1
omit hc in
theorem pi_keysN {tg e : Expr} {td : TE} (he : PE X e td) : PI X tg e (iKeysN td) := by
  refine ⟨fun pins s σ H R I h => ?_⟩
  refine thn (he.run pins s σ H _ I h) fun u s1 ⟨x, H1, I1, rx, d, o, w, xs, ex, hs, hd, q⟩ => ?_
  subst ex
  obtain rfl : u = Value.ref d := rx
  obtain ⟨hgd, hx, es, ep, hdt, hsz, ent⟩ := Inv.frzN I1 hd
  refine iter_keys hs hgd hx hdt (pi_one (tk := s1.toks) I1 _ (turn_keysN _ hdt) ⟨_, Heap.get?_push_size _ rfl, rfl, ?_⟩ q)
  rw [hsz] <;> rfl
omit hc in
theorem dnR_get {K : Frag} {H : Hp} : ∀ {kvs : List (D × D)} {xs : List NE} {i : Nat} {p : D × D}, DnR K H kvs xs → kvs[i]? = some p → ∃ y, xs[i]? = some y ∧ DnE K H p y
  | _, _, i, p, .nil, e => by simp at e
  | q :: kvs, y :: ys, 0, p, .cons h t, e => by simp at e; subst e; exact ⟨y, rfl, h⟩
  | q :: kvs, b :: ys, i + 1, p, .cons h t, e => by
    obtain ⟨y, h1, h2⟩ := dnR_get (i := i) t (by simpa using e)
    exact ⟨y, by simpa using h1, h2⟩
theorem walk_itkn {a : R} {ea tg : Expr} (ha : PE X ea (liftE X.K cx (wpE T c a))) : PI X tg ea (liftI X.K cx (.itkn a) (wpI T c (.itkn a))) :=
  piImp hc (pi_keysN ha) fun σ H R ⟨S, σ2, hr, rs, w⟩ => stepE hc hr rs w fun x S1 v H1 hr1 k1 rs1 r1 ⟨b, kvs, z, xs, ex, eb, w⟩ => by
    subst ex
    cases r1.1
    obtain ⟨h, o, rfl, rd⟩ := hr1 b _ eb
    refine ⟨b, o, cx.w, xs, rfl, rd.m, h, w _ H1 hr1 k1 fun Pz hz S' H' σ' hr' k' ok i => ?_⟩
    obtain ⟨h', o', _, rd'⟩ := hr' b _ ok
    have hl : kvs.length = xs.length := rd'.r.length
    refine ⟨fun d e => ?_, fun e => ⟨h', by rw [← hl]; simpa using Nat.le_of_eq e⟩⟩
    rw [List.getElem?_map] at e
    obtain ⟨p, e1, rfl⟩ := Option.map_eq_some_iff.mp e
    obtain ⟨y, h1, h2⟩ := dnR_get rd'.r e1
    refine ⟨⟨h', (List.getElem?_eq_some_iff.mp h1).1⟩, fun x H2 y' => ?_⟩
    obtain ⟨rfl, y2, h4, rfl⟩ := y'
    rw [h1] at h4; cases h4
    exact ⟨hr', .refl, h2.2.2.1⟩
/-! ### slices by 1, -1 -/
omit hc in
theorem slice_one (items : Array Value) : slicePick items none none (some 1) = slicePick items none none none := rfl
def tStpL (K : PySem.W.Frag) (te tk : TE) : TE := fun σ H Q => te σ H fun x H1 => tPart tk σ H1 fun o H2 => ∃ a xs z, x = .ref a ∧ SqL K H2 a xs ∧ o = some z ∧ (z = 1 ∨ z = -1) ∧ ∀ p, H2 p = none → Q (.ref p) (upd H2 p (.lst (if z = 1 then xs else xs.reverse)))
omit hc in
theorem pe_stpL {e ek : Expr} {te tk : TE} {p3 pos : Pos} (he : PE X e te) (hk : PE X ek tk) : PE X (.Subscript e (.Slice none none (some ek) p3) pos) (tStpL X.K te tk) := by
  refine ⟨fun pins s σ H Q I h => ?_⟩
  refine Subscript_ (thn (he.run pins s σ H _ I h) fun v s1 ⟨x, H1, I1, r1, q1⟩ => ?_)
  refine wpAny_Slice (thn (po_none.run pins s1 σ H1 (fun o H2 => o = none ∧ H2 = H1) I1 ⟨rfl, rfl⟩) fun vl s2 ⟨l, H2, I2, pl, el, e2⟩ => ?_)
  subst el e2
  refine thn (po_none.run pins s2 σ H2 (fun o H3 => o = none ∧ H3 = H2) I2 ⟨rfl, rfl⟩) fun vu s3 ⟨u, H3, I3, pu, eu, e3⟩ => ?_
  subst eu e3
  refine thn ((po_some hk).run pins s3 σ H3 _ I3 q1) fun vs s4 ⟨o, H4, I4, ps, a, xs, z, ex, hx, eo, hz1, q⟩ => ?_
  subst ex eo
  cases r1
  have I5 : Inv X pins σ H4 { s4 with heap := s4.heap.push { cls := .type "slice", data := .fields #[vl, vu, vs] } } := I4.kept (t' := s4.toks) fun b ob q => Heap.get?_push_of_some _ q
  obtain ⟨its, r, ht, hz⟩ := I5.list hx
  have hlen := r.length
  show wpAny (model X.prog X.w) X.A (subscriptTail e (.Slice none none (some ek) p3) (.ref a) (.ref s4.heap.objs.size)) (EP X pins σ Q) X.xe { s4 with heap := s4.heap.push { cls := .type "slice", data := .fields #[vl, vu, vs] } }
  refine tail_any (ops := [.ref a, .ref s4.heap.objs.size]) ht.isList.typeIs (PySem.slot_list_getitem.lookup) ?_ (by with_unfolding_all rfl)
  refine wpAny_getItem_list_slice ht.isList (Heap.IsSliceOf.new _ vl vu vs) pl pu ps (by rcases hz1 with rfl | rfl <;> decide) ?_ (by rw [List.size_toArray]; omega)
  rcases hz1 with rfl | rfl
  · rw [slice_one, slicePick_cut]
    have e : (its.drop (HT.sIx its.length 0 none)).take (HT.sIx its.length its.length none - HT.sIx its.length 0 none) = its := by rw [HT.sIx_none, HT.sIx_none]; simp
    rw [e]
    exact ⟨.ref _, _, I5.laid (t' := s4.toks) (o := .lst xs) (fun b ob q => Heap.get?_push_of_some _ q) (Nat.le_refl _) ⟨hz, _, 0, r, Heap.get?_push_size _ rfl⟩, rfl, q _ (I5.hok.fresh (Nat.le_refl _))⟩
  · rw [PySem.W.krv_pick]
    refine ⟨.ref _, _, I5.laid (t' := s4.toks) (o := .lst xs.reverse) (fun b ob q => Heap.get?_push_of_some _ q) (Nat.le_refl _) ?_, rfl, q _ (I5.hok.fresh (Nat.le_refl _))⟩
    exact ⟨by rw [List.length_reverse]; exact hz, _, 0, r.reverse, Heap.get?_push_size _ rfl⟩
omit hc in
theorem RepL.rev {K : Frag} {H : Hp} : ∀ {ds : List D} {vs : List V}, RepL K H ds vs → RepL K H ds.reverse vs.reverse
  | [], _, e => by cases e; exact .nil
  | d :: ds, _, ⟨v, vr, e, r, rr⟩ => by
    subst e
    rw [List.reverse_cons, List.reverse_cons]
    exact RepL.append (RepL.rev rr) (.cons r .nil)
theorem snd_stp {a k : R} {ea ek : Expr} {p3 pos : Pos} (ha : PE X ea (liftE X.K cx (wpE T c a))) (hk : PE X ek (liftE X.K cx (wpE T c k))) : PE X (.Subscript ea (.Slice none none (some ek) p3) pos) (liftE X.K cx (wpE T c (.stp a k))) :=
  peImp (pe_stpL ha hk) fun σ H Q ⟨S, σ2, hr, rs, w⟩ => stepE hc hr rs w fun x S1 v H1 hr1 k1 rs1 r1 w => stepE hc hr1 rs1 w fun y S2 u H2 hr2 k2 rs2 r2 ⟨z, ez, hz, w⟩ => by
    subst ez
    cases r2.1
    obtain ⟨cn, ⟨ds, rfl, x', ex, q⟩, hcn⟩ := view_of hr2 (r1.1.keep k2 hr1) w
    obtain ⟨a, vs, rfl, ha, rv⟩ := hcn
    cases ex
    refine ⟨z, rfl, a, vs, z, rfl, SqL.of ha, rfl, hz, fun p n => fin_vl (KVof.of (k1.trans k2) q) hr2 ?_ p n⟩
    split
    · exact rv
    · exact rv.rev
end
end DL

/-! DL12k: enumerate over the keys of a locked dict. -/
namespace DL
open PySem L2 PySem.Spec PyProof.Rows
section
variable {prog : Program} {w : World} {K : Type} [DecidableEq K] {knd : KeyKind prog w K} {A : Around}
theorem keyOf_end {s : Shared} {E : Value → Shared → Prop} {it d : Addr} {i n ep : Nat} {od : Obj} {es : Array DictEntry} {Q : Value → Shared → Prop} (hh : A.handled = none) (hit : s.heap.IsKeyIter it d i n ep) (hod : s.heap.get? d = some od) (hdd : od.data = .dict es ep) (hsz : es.size = n) (hge : n ≤ i)
    (hE : ∀ h' e, Heap.ExtBut it s.heap h' → (∃ o, h'.get? e = some o ∧ o.cls = .type "StopIteration") → E (.ref e) { s with heap := h' }) : wpAny (model prog w) A (Builtin.SmallTypes.nextOf (.ref it)) Q E s := by
  obtain ⟨o, ho, hc, hd⟩ := id hit; unfold Builtin.SmallTypes.nextOf
  refine wpAny_bind (wpAny_callSpecial?_slot (name := Str.ofString "__next__") hit.typeIs F.slot_dict_keyiterator_next (wpAny_call_entry F.slot_dict_keyiterator_next hit.typeIs F.entry_dict_keyiterator_next ?_ (F.args_dict_keyiterator_next_1 _)))
  refine wpAny_bind (wpAny_pure ?_); refine wpAny_bind ?_; refine wpAny_bind ?_
  refine wpAny_bind (wpAny_typeNameOfWhole_keyiter hit.typeIs (wpAny_pure ?_)); refine wpAny_bind (wpAny_fieldsOf ho hd ?_)
  simp only [show Builtin.Dict_items.ownsTuple "dict_keyiterator" = false by decide, Bool.false_eq_true, if_false]
  show wpAny _ _ (if (Value.ref d == Value.none) = true then _ else _) _ _ s; rw [if_neg (show ¬ ((Value.ref d == Value.none) = true) from Bool.false_ne_true)]
  refine wpAny_bind (wpAny_pure ?_); refine wpAny_bind (wpAny_dictEntries hod hdd ?_); rw [if_neg (by rw [hsz]; simp)]
  refine wpAny_bind (wpAny_pure ?_); refine wpAny_bind (wpAny_dictEpoch hod hdd ?_); rw [if_neg (by simp)]; refine wpAny_pure ?_
  simp only [show ¬ ((i : Int) < 0) from by omega, if_false, Int.toNat_natCast, Array.getElem?_eq_none (show es.size ≤ i by rw [hsz]; exact hge)]
  refine wpAny_bind ?_; refine wpAny_bind (wpAny_typeNameOfWhole_keyiter hit.typeIs (wpAny_pure ?_))
  show wpAny _ _ (setField (.ref it) 0 .none >>= _) _ _ s; refine wpAny_bind (wpAny_setField ho hd (by simp) ?_)
  show wpAny _ _ (newExc (.type "StopIteration") [] >>= _) _ _ _; refine wpAny_bind ?_; simp only [newExc, newTuple]
  refine wpAny_bind (wpAny_newObj_type ?_ (by size_fits)); refine wpAny_bind (m := firstArgMember _ _) (wpAny_of_eq (a := Value.none) (by first | rfl | (simp only [firstArgMember]; rfl)) ?_)
  refine wpAny_newObj_type ?_ (by size_fits); simp only [raiseNew]; refine wpAny_bind (wpAny_handled ?_)
  rw [show A.in1.handled = none from hh]; refine wpAny_bind (wpAny_pure (wpAny_throw ?_))
  exact hE _ _ (((Heap.SameBut.update ..).extBut.push _).push _) ⟨_, Heap.get?_push_size _ rfl, rfl⟩
theorem drawsK (hh : A.handled = none) (it d : Addr) (hne : d ≠ it) (kvs : List (K × Value)) (ep : Nat) :
    Draws prog w A it [it, d] kvs.length (fun i v => ∃ k x, kvs[i]? = some (k, x) ∧ knd.is k v = true) (fun i h => h.IsKeyIter it d i kvs.length ep ∧ h.DictAt knd d kvs ep) where
  live := fun _ _ st => let ⟨o, ho, _⟩ := st.1; ⟨o, ho⟩
  frame := fun _ _ _ st hk => ⟨st.1.at fun o e => hk it (by simp) o e, st.2.at' fun o e => hk d (by simp) o e⟩
  item := fun i s Q E hi st hQ => by
    obtain ⟨⟨k, x⟩, hkv⟩ : ∃ p, kvs[i]? = some p := ⟨kvs[i], List.getElem?_eq_getElem hi⟩
    unfold Builtin.SmallTypes.nextOf
    refine wpAny_bind (PySem.W.kdk_special st.1 st.2 hkv fun key h' hk st' sb => ?_)
    exact wpAny_pure (hQ key h' s.toks ⟨k, x, hkv, hk⟩ ⟨st', st.2.at' fun o e => (sb.2 d hne).trans e⟩ sb)
  done := fun s Q E st hE => by
    obtain ⟨od, es, hod, hcd, hdd, hk, hp, hn⟩ := st.2
    refine keyOf_end hh st.1 hod hdd ?_ (Nat.le_refl _) hE
    have := hp.length
    simpa using this
end
theorem beginsK {d : Addr} {od : Obj} {es : Array DictEntry} {ep : Nat} (hd : (d == sysModules) = false) : Begins (.ref d) { cls := .type "dict_keyiterator", data := .fields #[.ref d, .int 0 0, .int es.size 0, .int ep 0] } fun h => h.get? d = some od ∧ od.ExactDict ∧ od.data = .dict es ep where
  iter := fun prog' w' A E s Q hm h => iter_keys hd hm.1 hm.2.1 hm.2.2 h
  keeps := fun h h' x hk => ⟨hk d _ x.1, x.2⟩
  free := rfl
/-- enumerate over the keys of the locked dict at d: each in a new pair -/
def IteK (d : Addr) (o : Obj) (kvs : List (Key × V)) : It :=
  ⟨fun i H => H d = some (.frz o (.dK kvs)) ∧ i < kvs.length, fun i H x H' => ∃ T k v, kvs[i]? = some (k, v) ∧ x = .ref T ∧ H T = none ∧ H' = upd H T (.tup [.int (i : Nat), kV k]), fun i H => H d = some (.frz o (.dK kvs)) ∧ kvs.length = i⟩
theorem turn_enumK {P : Program} {w : World} {K : PySem.W.Frag} {elts : List Expr} {kk : Nat} {tpos : Pos} {d : Addr} {o : Obj} {es : Array DictEntry} {ep : Nat} {kvs : List (Key × V)} (e it : Addr) (hod : o.data = .dict es ep) :
    Turn P w K (.Tuple elts kk tpos) (IteK d o kvs) [e, it] e (fun i h => (∃ old, IsEnum h e it ((i : Nat) : Int) old) ∧ h.IsKeyIter it d i kvs.length ep ∧ e ≠ it) where
  mem := by simp
  obj := fun i h st b hb => by
    obtain ⟨⟨old, he⟩, ⟨oi, ho, hc, hd⟩, _⟩ := st
    rcases (by simpa using hb : b = e ∨ b = it) with z | z
    · rw [z]; exact ⟨_, he, fun v q => nomatch q⟩
    · rw [z]; exact ⟨oi, ho, fun v q => by rw [hd] at q; cases q⟩
  keep := fun i h h' st k => let ⟨⟨old, he⟩, hi, hne⟩ := st; ⟨⟨old, k e (by simp) _ he⟩, hi.at fun o q => k it (by simp) o q, hne⟩
  item := by
    intro X hP hw hK hc i pins s σ H E I hf st hg
    subst hP hw hK
    obtain ⟨⟨old, he⟩, hit, hne⟩ := st
    obtain ⟨hd, hi⟩ := hg
    obtain ⟨hs, hgd, hx, es', ep', vs, hdt, hsz, kv, hm⟩ := I.frzK hd
    obtain ⟨rfl, rfl⟩ := dict_ep hod hdt
    have hl : kvs.length = vs.length := Paired.length kv
    have hel : e < s.heap.objs.size := Heap.lt_size he
    have hil : it < s.heap.objs.size := by obtain ⟨_, q, _⟩ := hit; exact Heap.lt_size q
    have hde : d ≠ it := fun z => by
      subst z; obtain ⟨oi, q, c, _⟩ := hit; rw [hgd] at q; cases q; exact absurd (hx.1.symm.trans c) (by decide +kernel)
    have hdx : d ≠ e := fun z => by
      subst z; have he2 : s.heap.get? d = some _ := he; rw [hgd] at he2; cases he2; exact absurd (show Value.type "enumerate" = Value.type "dict" from hx.1) (by decide +kernel)
    rw [hl] at hit
    refine wpAny_pyNext_enum_itemD (drawsK (prog := X.prog) (w := X.w) (A := X.A.in1) (show X.A.in1.handled = none from I.ok.hd hc) it d hde vs ep') he ⟨hit, hm⟩ (by omega) hne (by simp [hne, Ne.symm hdx]) fun u h' tk hP ho hst' hT hsz hk => ?_
    obtain ⟨k, x, hkv, hkey⟩ := hP
    obtain ⟨⟨k', v⟩, hkv'⟩ : ∃ p, kvs[i]? = some p := ⟨kvs[i], List.getElem?_eq_getElem hi⟩
    obtain ⟨u', hu, ru⟩ := kv_get kv hkv'
    have ek : k' = k := by rw [hu] at hkv; cases hkv; rfl
    subst ek
    have rk : RelV (kV k') u := relV_key (show keyIs k' u = true from hkey)
    refine ⟨_, rfl, wpAny_letOwnedTupleGo_enum (s := { s with heap := h', toks := tk + 1 }) ho fun h'' he' sb => ?_⟩
    have hT2 := (sb.2 _ (Nat.ne_of_gt hel)).trans hT
    have new : ObjOk X.prog X.w (upd H s.heap.objs.size (.tup [.int (i : Nat), kV k'])) h'' s.heap.objs.size (.tup [.int (i : Nat), kV k']) := ⟨show 2 ≤ sizeLine by decide, [.int i tk, u], .cons ⟨_, rfl⟩ (.cons rk .nil), ⟨_, hT2, rfl, _, rfl⟩⟩
    have I1 := I.turnedNew (t' := tk + 1) (ch := [e, it]) (fun b ob hb q => (sb.2 b (fun z => hb (by simp [z]))).trans (hk b ob (fun z => hb (by simp [z])) (fun z => hb (by simp [z])) q)) hf (Nat.le_refl _) new
    refine ⟨.ref s.heap.objs.size, _, I1, rfl, ⟨_, k', v, hkv', rfl, I.hok.fresh (Nat.le_refl _), rfl⟩, ⟨⟨u, ?_⟩, ?_, hne⟩, fun b hb => ?_⟩
    · rw [show ((i + 1 : Nat) : Int) = (i : Int) + 1 by omega]; exact he'
    · rw [hl]; exact hst'.1.at fun o q => (sb.2 it (Ne.symm hne)).trans q
    · have hb' : b < s.heap.objs.size := by
        rcases (by simpa using hb : b = e ∨ b = it) with z | z
        · rw [z]; exact hel
        · rw [z]; exact hil
      rw [upd_ne (Nat.ne_of_lt hb')]; exact (hf b hb).1
  done := by
    intro X hP hw hK hc i pins s σ H E I hf st hg
    subst hP hw hK
    obtain ⟨⟨old, he⟩, hit, hne⟩ := st
    obtain ⟨hd, hi⟩ := hg
    obtain ⟨hs, hgd, hx, es', ep', vs, hdt, hsz, kv, hm⟩ := I.frzK hd
    obtain ⟨rfl, rfl⟩ := dict_ep hod hdt
    obtain ⟨f0, f1, f2, f3, f4, f5⟩ := hf it (by simp)
    have hl : kvs.length = vs.length := Paired.length kv
    have hde : d ≠ it := fun z => by
      subst z; obtain ⟨oi, q, c, _⟩ := hit; rw [hgd] at q; cases q; exact absurd (hx.1.symm.trans c) (by decide +kernel)
    rw [hl] at hit
    have hs2 : vs.length = i := by omega
    rw [← hs2] at hit he
    exact wpAny_pyNext_enum_endD (drawsK (prog := X.prog) (w := X.w) (A := X.A.in1) (show X.A.in1.handled = none from I.ok.hd hc) it d hde vs ep') he ⟨hit, hm⟩ fun h' eb => ⟨rfl, I.turned (t' := s.toks) (fun b o hb q => eb b o hb q) f0 f1 f3 f4 f5⟩
  self := fun A i s Q E st h => let ⟨⟨_, he⟩, _⟩ := st; wpAny_pyIter_enum he h
def iEnumK (ta : TA) : TI := fun σ H R => ta σ H fun vs H1 => ∃ d o kvs, vs = [.ref d] ∧ H1 d = some (.frz o (.dK kvs)) ∧ R (IteK d o kvs) H1
theorem pi_enumK {X : Cx} {e : Expr} {ta : TA} {p pos tpos : Pos} {elts : List Expr} {kk : Nat} (hg : Gl X "enumerate") (hm : X.mg "enumerate" = none) (ha : PA X [e] ta) (hs : starEach [e] X.env = [(false, eval e X.env)]) :
    PI X (.Tuple elts kk tpos) (.Call (.Name "enumerate" p) [e] [] pos) (iEnumK ta) := by
  refine ⟨fun pins s σ H R I h => Call_ (ld_blt I hg hm boot_enumerate (PyProof.Rows.callWith_type1 (thn (ha.run pos pins s σ H _ I h) fun us s1 ⟨vs, H1, I1, r1, q1⟩ => ?_) hs rfl))⟩
  obtain ⟨d, o, kvs, ex, hd, q⟩ := q1
  subst ex
  cases r1 with
  | cons r rr =>
    cases rr
    cases r
    have fp2 : ∀ b ∈ [s1.heap.objs.size + 1, s1.heap.objs.size], FpOk X pins H1 b := fun b hb => by
      have hle : s1.heap.objs.size ≤ b := by rcases (by simpa using hb : b = s1.heap.objs.size + 1 ∨ b = s1.heap.objs.size) with z | z <;> omega
      exact I1.fpOk hle (I1.hok.fresh hle)
    obtain ⟨hsm, hgd, hx, es, ep, vs, hdt, hsz, kv, hmm⟩ := I1.frzK hd
    refine call_enumT (beginsK hsm) ⟨hgd, hx, hdt⟩ fun h' he hit hz hk => wpAny_pyIter_enum he ?_
    have I2 : Inv X pins σ H1 { s1 with heap := h' } := I1.kept (t' := s1.toks) hk
    refine ⟨s1.heap.objs.size + 1, [s1.heap.objs.size + 1, s1.heap.objs.size], _, _, H1, rfl, I2, turn_enumK (s1.heap.objs.size + 1) s1.heap.objs.size hdt, ⟨⟨.none, he⟩, ⟨_, hit, rfl, ?_⟩, Nat.succ_ne_self _⟩, fp2, q⟩
    rw [hsz]; rfl
section
variable {X : Cx} {T : Tbl} {c : Nat → List Vx → Hs → VK2 → Prop} {cx : Cls2} (hc : CalMono c)
include hc
theorem walk_enuk {a : R} {ea : Expr} {elts : List Expr} {kk : Nat} {p pos tpos : Pos} (hg : Gl X "enumerate") (hm : X.mg "enumerate" = none) (hs : starEach [ea] X.env = [(false, eval ea X.env)]) (ha : PE X ea (liftE X.K cx (wpE T c a))) :
    PI X (.Tuple elts kk tpos) (.Call (.Name "enumerate" p) [ea] [] pos) (liftI X.K cx (.enuk a) (wpI T c (.enuk a))) :=
  piImp hc (pi_enumK hg hm (pa_cons ha pa_nil hs) hs) fun σ H R ⟨S, σ2, hr, rs, w⟩ => stepE hc hr rs w fun x S1 v H1 hr1 k1 rs1 r1 ⟨b, kvs, z, ex, eb, w⟩ => by
    subst ex
    cases r1.1
    obtain ⟨h, o, ks, rfl, rd⟩ := hr1 b _ eb
    refine ⟨b, o, ks, rfl, h, w _ H1 hr1 k1 fun Pz hz S' H' σ' hr' k' ok i => ?_⟩
    obtain ⟨h', o', ks', e', rd'⟩ := hr' b _ ok
    cases e'
    have hl : kvs.length = ks.length := DicR.length rd'
    refine ⟨fun d e => ?_, fun e => ⟨h', by rw [← hl]; rw [enumD_length, List.length_map] at e; omega⟩⟩
    obtain ⟨x, e1, rfl⟩ := enumD_get _ _ _ _ e
    rw [List.getElem?_map] at e1
    obtain ⟨p, e2, rfl⟩ := Option.map_eq_some_iff.mp e1
    obtain ⟨k, v, h1, h2, h3⟩ := dicR_get rd' e2
    refine ⟨⟨h', (List.getElem?_eq_some_iff.mp h1).1⟩, fun x H2 y => ?_⟩
    obtain ⟨T', k', v', h4, rfl, n, rfl⟩ := y
    rw [h1] at h4; cases h4
    rw [Nat.zero_add]
    exact pair_new hr' n rfl (keyR_rep h2)
end
end DL

/-! DL13: stores, mutators of a slot's own container. -/
namespace DL
open PySem L2 PySem.Spec PyProof.Rows
section
variable {K : Frag} {cx : Cls2} {S S' S1 : Hs} {H H' H1 H0 : Hp} {σ2 : Sl} {σ : L2.St} {B B' : Bs}
/-- what stands in a slot whose owned place changes -/
theorem RelS.chg (r : RelS B K S H σ2 σ) {i : Nat} {x x' : Vx} {a : Addr} (e : σ2[i]? = some (some x)) (o : own x = true) (e' : σ[i]? = some (some (.ref a))) (hx : RepX K H' S' x' (.ref a)) (hl : lent x' = false)
    (h : ∀ (y : Vx) (v : V), (own y = true → v ≠ .ref a) → (lent y = true → v ≠ .ref a) → RepX K H S y v → RepX K H' S' y v) : RelS B K S' H' (σ2.set i (some x')) σ := by
  have hi := (List.getElem?_eq_some_iff.mp e).1
  obtain ⟨g1, g2, g3⟩ := r.ow i x a e o e'
  have old : ∀ {j : Nat} {y : Vx}, (σ2.set i (some x'))[j]? = some (some y) → (j = i ∧ y = x') ∨ (j ≠ i ∧ σ2[j]? = some (some y)) := fun {j y} ej => by
    by_cases z : j = i
    · subst z; rw [List.getElem?_set_self hi] at ej; cases ej; exact .inl ⟨rfl, rfl⟩
    · rw [List.getElem?_set_ne (Ne.symm z)] at ej; exact .inr ⟨z, ej⟩
  refine ⟨⟨by simp [r.rx.1], fun j y ej => ?_⟩, fun j y b ej oj ej' => ?_, fun j y b ej lj ej' => ?_⟩
  · rcases old ej with ⟨rfl, rfl⟩ | ⟨z, ej⟩
    · exact ⟨_, e', hx⟩
    · obtain ⟨v, h1, h2⟩ := r.rx.2 j y ej
      exact ⟨v, h1, h y v (fun oj ev => z (g3 j y ej oj (ev ▸ h1))) (fun lj ev => g1 (r.lt j y a ej lj (ev ▸ h1))) h2⟩
  · rcases old ej with ⟨rfl, rfl⟩ | ⟨z, ej⟩
    · rw [e'] at ej'; cases ej'
      refine ⟨g1, g2, fun k w ek ok ek' => ?_⟩
      rcases old ek with ⟨rfl, rfl⟩ | ⟨zk, ek⟩
      · rfl
      · exact g3 k w ek ok ek'
    · obtain ⟨f1, f2, f3⟩ := r.ow j y b ej oj ej'
      refine ⟨f1, f2, fun k w ek ok ek' => ?_⟩
      rcases old ek with ⟨rfl, rfl⟩ | ⟨zk, ek⟩
      · exact f3 k x e o ek'
      · exact f3 k w ek ok ek'
  · rcases old ej with ⟨rfl, rfl⟩ | ⟨z, ej⟩
    · rw [hl] at lj; cases lj
    · exact r.lt j y b ej lj ej'
/-- a slot's own container behind a mutator -/
theorem own_mut (hr : Rel K cx S H) (r : RelS B K S H σ2 σ) (kb : KeepB B S H) {i : Nat} {x : Vx} {a : Addr} {c' : Cn} (e : σ2[i]? = some (some x)) (o : own x = true) (e' : σ[i]? = some (some (.ref a))) (m : MOut K cx H a c' H')
    (hc : (∃ ds, c' = .l ds) ∨ ∃ kvs, c' = .k kvs) : Rel K cx S H' ∧ RelS B K S H' (σ2.set i (some c'.v)) σ ∧ KeepB B S H' := by
  obtain ⟨h', rfl, hcn, hs⟩ := m
  obtain ⟨hn, sn⟩ := r.rx.ownH e o e'
  obtain ⟨g1, g2, g3⟩ := r.ow i x a e o e'
  have t : TupS K H (upd H a h') := tupS_upd hs
  refine ⟨hr.upd0 sn t, r.chg e o e' ?_ ?_ fun y v n1 n2 ry => ?_, ⟨fun b z => ?_, fun b z => kb.hn b ?_⟩⟩
  · rcases hc with ⟨ds, rfl⟩ | ⟨kvs, rfl⟩
    · obtain ⟨p, vs, ep, h, rl⟩ := hcn; cases ep; exact ⟨a, vs, rfl, h, sn, rl⟩
    · obtain ⟨p, vs, ep, h, rl⟩ := hcn; cases ep; exact ⟨a, vs, rfl, h, sn, rl⟩
  · rcases hc with ⟨ds, rfl⟩ | ⟨kvs, rfl⟩ <;> rfl
  · cases y with
    | d d => exact RepV.keep t _ _ ry
    | vl ds => obtain ⟨b, vs, rfl, h, n, rl⟩ := ry; exact ⟨b, vs, rfl, by rw [upd_ne fun z => n1 rfl (by rw [z])]; exact h, n, rl.keep t⟩
    | bw ds => obtain ⟨b, vs, rfl, h, n, rl⟩ := ry; exact ⟨b, vs, rfl, by rw [upd_ne fun z => n2 rfl (by rw [z])]; exact h, n, rl.keep t⟩
    | vd ds => obtain ⟨b, vs, rfl, h, n, rl⟩ := ry; exact ⟨b, vs, rfl, by rw [upd_ne fun z => n1 rfl (by rw [z])]; exact h, n, rl.keep t⟩
    | bd ds => obtain ⟨b, vs, rfl, h, n, rl⟩ := ry; exact ⟨b, vs, rfl, by rw [upd_ne fun z => n2 rfl (by rw [z])]; exact h, n, rl.keep t⟩
    | fz ds =>
      obtain ⟨b, vs, rfl, h, rl⟩ := ry
      refine ⟨b, vs, rfl, ?_, rl.keep t⟩
      rcases h with ⟨ob, h, n⟩ | h
      · refine .inl ⟨ob, ?_, n⟩
        rw [upd_ne]
        · exact h
        · rintro rfl
          have := hs _ h
          cases this
      · exact .inr h
    | st ds => exact ry.elim
  · obtain ⟨f1, f2, f3⟩ := kb.st b z
    have ne : b ≠ a := fun q => g1 (q ▸ z)
    exact ⟨f1, by rw [upd_ne ne]; exact f2, by rw [upd_ne ne]; exact f3⟩
  · by_cases ne : b = a
    · subst ne; rw [upd_same] at z; cases z
    · rw [upd_ne ne] at z; exact z
/-- a tracked object is written -/
theorem trk_mut (r : RelS B K S H σ2 σ) (hr : Rel K cx S H) (kb : KeepB B S H) {a : Addr} {ob o' : O} {h' : HO} (e : S a = some ob) (hs : ∀ o, H a = some o → seqish o = false) (hq : RelO K cx (upd H a h') a o') :
    Rel K cx (su S a o') (upd H a h') ∧ Keep S (su S a o') H (upd H a h') := by
  refine ⟨hr.upd1 (tupS_upd hs) hq, fun b o z n => ?_, fun b z => ?_⟩
  · have ne : b ≠ a := fun z => by subst z; rw [e] at n; cases n
    exact ⟨by rw [upd_ne ne]; exact z, by rw [su_ne ne]; exact n⟩
  · by_cases ne : b = a
    · subst ne; rw [upd_same] at z; cases z
    · rw [upd_ne ne] at z; exact z
theorem mutC_lk {m : M} {c : Cn} {xs : List Vx} {P : Cn → D → Prop} (hn : ∀ k, c ≠ .kn k) (w : mutC m c xs S P) : mutC m c xs S fun c' r => ((∃ ds, c' = .l ds) ∨ ∃ kvs, c' = .k kvs) ∧ P c' r := by
  unfold mutC at w ⊢
  split at w
  · exact ⟨w.1, .inl ⟨_, rfl⟩, w.2⟩
  · obtain ⟨y, e, q⟩ := w; exact ⟨y, e, .inl ⟨_, rfl⟩, q⟩
  · obtain ⟨y, e, q⟩ := w; exact ⟨y, e, .inl ⟨_, rfl⟩, q⟩
  · exact ⟨w.1, .inl ⟨_, rfl⟩, w.2⟩
  · exact ⟨w.1, .inl ⟨_, rfl⟩, w.2⟩
  · exact ⟨w.1, w.2.1, .inr ⟨_, rfl⟩, w.2.2⟩
  · exact (hn _ rfl).elim
  · exact ⟨w.1, w.2.1, .inl ⟨_, rfl⟩, w.2.2⟩
  · exact view_mono (fun c ⟨n, e, z, q⟩ => ⟨n, e, z, .inl ⟨_, rfl⟩, q⟩) w
  · exact ⟨.inl ⟨_, rfl⟩, w⟩
  · obtain ⟨ns, j, e1, e2, e3, q⟩ := w; exact ⟨ns, j, e1, e2, e3, .inl ⟨_, rfl⟩, q⟩
  · exact w.elim
theorem putF_rel {f : Str} {d : D} {v : V} (rv : RepV K H d v) : ∀ (fv : List (Str × V)) (ns : List Str) (k : Nat) (fs : List D), ns.Nodup → fv.map Prod.fst = ns.take fs.length → fs.length ≤ ns.length → ns[k]? = some f → k ≤ fs.length → RepL K H fs (fv.map Prod.snd) →
    (putF f v fv).map Prod.fst = ns.take (setF fs k d).length ∧ (setF fs k d).length ≤ ns.length ∧ RepL K H (setF fs k d) ((putF f v fv).map Prod.snd)
  | [], ns, k, fs, nd, hm, hl, hk, hle, r => by
    have e : fs = [] := by cases fs with | nil => rfl | cons d ds => obtain ⟨_, _, q, _⟩ := r; cases q
    subst e
    have e : k = 0 := by simpa using hle
    subst e
    cases ns with
    | nil => simp at hk
    | cons n ns =>
      simp at hk; subst hk
      exact ⟨rfl, by simp [setF], ⟨v, [], rfl, rv, rfl⟩⟩
  | (g, u) :: fr, ns, k, fs, nd, hm, hl, hk, hle, r => by
    cases fs with
    | nil => simp at hm
    | cons d0 fs =>
      obtain ⟨v0, vr, ev, r0, rr⟩ := r
      simp at ev
      obtain ⟨rfl, rfl⟩ := ev
      cases ns with
      | nil => simp at hm
      | cons n ns =>
        simp at hm
        obtain ⟨rfl, hm⟩ := hm
        cases k with
        | zero =>
          simp at hk; subst hk
          have e1 : putF g v ((g, u) :: fr) = (g, v) :: fr := by show (if g = g then _ else _) = _; rw [if_pos rfl]
          have e2 : setF (d0 :: fs) 0 d = d :: fs := by show (if 0 = (d0 :: fs).length then _ else _) = _; rw [if_neg (by simp)]; rfl
          rw [e1, e2]
          exact ⟨by simp [hm], by simpa using hl, ⟨v, _, rfl, rv, rr⟩⟩
        | succ k =>
          have hk : ns[k]? = some f := by simpa using hk
          have ne : ¬ g = f := fun z => (List.nodup_cons.mp nd).1 (z ▸ List.mem_of_getElem? hk)
          have e1 : putF f v ((g, u) :: fr) = (g, u) :: putF f v fr := by show (if g = f then _ else _) = _; rw [if_neg ne]
          have e2 : setF (d0 :: fs) (k + 1) d = d0 :: setF fs k d := by
            unfold setF
            by_cases z : k = fs.length
            · rw [if_pos z, if_pos (by simp [z])]; rfl
            · rw [if_neg z, if_neg (by simpa using z)]; rfl
          obtain ⟨h1, h2, h3⟩ := putF_rel rv fr ns k fs (List.nodup_cons.mp nd).2 hm (by simpa using hl) hk (by simpa using hle) rr
          rw [e1, e2]
          exact ⟨by simp [h1], by simpa using h2, ⟨u, _, rfl, r0, h3⟩⟩
end
section
variable {X : Cx} {T : Tbl} {c : Nat → List Vx → Hs → VK2 → Prop} {cx : Cls2} (hc : CalMono c)
include hc
/-- a value is boxed within a statement -/
theorem stepBx {K : Frag} {S S1 : Hs} {H H1 : Hp} {σ2 : Sl} {σ : L2.St} {B : Bs} {x : Vx} {v : V} {P : D → Hs → Prop} (hr : Rel K cx S H) (rs : RelS B K S H σ2 σ) (kb : KeepB B S H) (hr1 : Rel K cx S1 H1) (k1 : Keep S S1 H H1) (r : RepR K H H1 S1 x v) (w : bx x S1 P) :
    ∃ d S2, P d S2 ∧ Rel K cx S2 H1 ∧ RepV K H1 d v ∧ RelS B K S2 H1 σ2 σ ∧ KeepB B S2 H1 := by
  obtain ⟨d, S2, w, hr2, k2, r2, _⟩ := rel_box hc hr1 k1 r w
  exact ⟨d, S2, w, hr2, r2, rs.keep k2 hr, kb.keep k2⟩
theorem st_seti {o k e : R} {st : Stmt} (h : PS X st (tAsg (liftE X.K cx (wpE T c e)) (gSub (liftE X.K cx (wpE T c o)) (liftE X.K cx (wpE T c k)) (pset X.K cx)))) : PS X st (liftS X.K cx (wpS T c (.seti o k e))) :=
  psImp h fun D σ H ⟨B, S, σ2, hr, rs, kb, w⟩ => stepSE hc hr rs kb w fun y S1 v H1 hr1 k1 rs1 kb1 r1 w => by
    obtain ⟨d, S2, w, hr2, rd, rs2, kb2⟩ := stepBx hc hr rs kb hr1 k1 r1 w
    refine stepSE hc hr2 rs2 kb2 w fun x S3 xv H3 hr3 k3 rs3 kb3 r3 w => stepSE hc hr3 rs3 kb3 w fun z S4 zv H4 hr4 k4 rs4 kb4 r4 ⟨a, ob, kd, ex, ea, ez, w2⟩ => ?_
    subst ex ez
    cases r3.1
    obtain rk : RepV X.K H4 kd zv := r4.1
    have rd4 := RepV.keep (k4.tups hr3) _ _ (RepV.keep (k3.tups hr2) _ _ rd)
    have z := hr4 a ob ea
    have hcn : CnR X.K cx H4 ob.cn (.ref a) := by
      cases ob with
      | lst ds => obtain ⟨us, h, r⟩ := z; exact ⟨a, us, rfl, h, r⟩
      | dic ds => obtain ⟨us, h, r⟩ := z; exact ⟨a, us, rfl, h, r⟩
      | fdc ds y => obtain ⟨h, o, ks, e1, r⟩ := z; subst e1; exact ⟨a, ks, o, rfl, h, r⟩
      | dn ds => obtain ⟨us, h, r⟩ := z; exact ⟨a, us, rfl, h, r⟩
      | fdn ds y ks => obtain ⟨h, o, e1, r⟩ := z; subst e1; exact ⟨a, ks, o, rfl, h, r⟩
      | ins ci fs => exact ⟨a, rfl, z⟩
    refine ⟨S4, ob.cn, a, kd, d, hr4, rfl, hcn, rk, rd4, mutC_mono (fun c' r ⟨o', ho', w⟩ H' mo => ?_) w2⟩
    obtain ⟨h1, h2⟩ := mout_rel hr4 ea mo ho'
    exact w B σ H' .refl h1 (rs4.keep h2 hr4) (kb4.keep h2)
theorem st_slcset {o e : R} {st : Stmt} (h : PS X st (tAsg (liftE X.K cx (wpE T c e)) (gSlA X.K (liftE X.K cx (wpE T c o))))) : PS X st (liftS X.K cx (wpS T c (.slcset o e))) :=
  psImp h fun D σ H ⟨B, S, σ2, hr, rs, kb, w⟩ => stepSE hc hr rs kb w fun y S1 v H1 hr1 k1 rs1 kb1 r1 ⟨b, ey, w⟩ => by
    subst ey
    cases r1.1
    refine stepSE hc hr1 rs1 kb1 w fun x S2 xv H2 hr2 k2 rs2 kb2 r2 ⟨a, xs, ys, ex, ea, eb, hne, hz, q⟩ => ?_
    subst ex
    cases r2.1
    obtain ⟨us, g1, ru⟩ := hr2 a _ ea
    obtain ⟨vs, g2, rv⟩ := hr2 b _ eb
    refine ⟨a, b, us, vs, rfl, rfl, g1, g2, hne, by rw [← ru.length, ← rv.length]; exact hz, ?_⟩
    have hs : ∀ o, H2 a = some o → seqish o = false := fun o e => by rw [g1] at e; cases e; rfl
    obtain ⟨q1, q2⟩ := trk_mut (h' := .lst vs) (o' := .lst ys) rs2 hr2 kb2 ea hs ⟨vs, upd_same, rv.keep (tupS_upd hs)⟩
    exact q B σ _ .refl q1 (rs2.keep q2 hr2) (kb2.keep q2)
theorem ownC_of {x : Vx} {P : Cn → Prop} (h : ownC x P) : ∃ cn, P cn ∧ own x = true ∧ ((∃ ds, x = .vl ds ∧ cn = .l ds) ∨ ∃ kvs, x = .vd kvs ∧ cn = .k kvs) := by
  cases x <;> first | exact ⟨_, h, rfl, .inl ⟨_, rfl, rfl⟩⟩ | exact ⟨_, h, rfl, .inr ⟨_, rfl, rfl⟩⟩ | exact h.elim
theorem own_cn {K : Frag} {H : Hp} {S : Hs} {x : Vx} {v : V} {cn : Cn} (r : RepX K H S x v) (h : (∃ ds, x = .vl ds ∧ cn = .l ds) ∨ ∃ kvs, x = .vd kvs ∧ cn = .k kvs) : ∃ a, v = .ref a ∧ CnR K cx H cn (.ref a) := by
  rcases h with ⟨ds, rfl, rfl⟩ | ⟨kvs, rfl, rfl⟩
  · obtain ⟨a, vs, rfl, h, n, rl⟩ := r; exact ⟨a, rfl, a, vs, rfl, h, rl⟩
  · obtain ⟨a, vs, rfl, h, n, rl⟩ := r; exact ⟨a, rfl, a, vs, rfl, h, rl⟩
theorem st_oseti {i : Nat} {k e : R} {st : Stmt} (h : PS X st (tAsg (liftE X.K cx (wpE T c e)) (gSub (tVar i) (liftE X.K cx (wpE T c k)) (pset X.K cx)))) : PS X st (liftS X.K cx (wpS T c (.oseti i k e))) :=
  psImp h fun D σ H ⟨B, S, σ2, hr, rs, kb, w⟩ => stepSE hc hr rs kb w fun y S1 v H1 hr1 k1 rs1 kb1 r1 w => by
    obtain ⟨d, S2, w, hr2, rd, rs2, kb2⟩ := stepBx hc hr rs kb hr1 k1 r1 w
    obtain ⟨x, ex, w⟩ := w
    obtain ⟨xv, exv, rx⟩ := rs2.rx.2 i x ex
    refine ⟨xv, exv, stepSE hc hr2 rs2 kb2 w fun z S4 zv H4 hr4 k4 rs4 kb4 r4 ⟨kd, ez, w⟩ => ?_⟩
    subst ez
    have rd4 := RepV.keep (k4.tups hr2) _ _ rd
    obtain ⟨cn, w, ho, hcs⟩ := ownC_of hc w
    obtain ⟨a, rfl, hcn⟩ := own_cn (cx := cx) hc (rx.keep k4 hr2) hcs
    refine ⟨S4, cn, a, kd, d, hr4, rfl, hcn, r4.1, rd4, mutC_mono (fun c' r ⟨hlk, w⟩ H' mo => ?_) (mutC_lk (fun k e => by subst e; rcases hcs with ⟨ds, _, q⟩ | ⟨ds, _, q⟩ <;> cases q) w)⟩
    obtain ⟨h1, h2, h3⟩ := own_mut hr4 rs4 kb4 ex ho exv mo hlk
    exact w B σ H' .refl h1 h2 h3
/-- xs.append(..), as a statement; y = xs.pop(..) -/
theorem st_om {m : M} {i : Nat} {as : R} {st : Stmt} {es : List Expr} {te : TE} (ht : ∀ σ H Q, tBM X.K "list" (mOf X.K cx m) (tVar i) (liftA X.K cx (wpE T c as)) σ H Q → te σ H Q) (dst : Option Nat) (h : PS X st (match dst with
    | none => tDrop te
    | some j => tAsg te (gName j))) : PS X st (liftS X.K cx (wpS T c (.om m i as dst))) :=
  psImp h fun D σ H ⟨B, S, σ2, hr, rs, kb, ds, ex, w⟩ => by
    obtain ⟨xv, exv, rx⟩ := rs.rx.2 i _ ex
    have key : ∀ Q : VK, (∀ r H' v, (∃ (S' : Hs) (σ2' : Sl), Rel X.K cx S' H' ∧ RelS B X.K S' H' σ2' σ ∧ KeepB B S' H' ∧ RepV X.K H' r v ∧ nxS X.K cx B D.nx (dstS dst r σ2') S') → Q v H') → te σ H Q := fun Q q => by
      have rx0 := rx
      obtain ⟨a, vs, rfl, ha, na, rl⟩ := rx
      refine ht _ _ _ ⟨_, exv, .inl ⟨rfl, vs, SqL.of ha⟩, stepA hc hr rs.rx w fun xs S1 vs1 H1 hr1 k1 rs1 r1 w => ?_⟩
      obtain ⟨h1, h2⟩ := k1.kp _ _ ha na
      refine ⟨S1, .l ds, a, xs, hr1, rfl, ⟨a, vs, rfl, h1, rl.keep (k1.tups hr)⟩, r1, mutC_mono (fun c' r ⟨hlk, w⟩ H' v mo rv => ?_) (mutC_lk (fun k e => by cases e) w)⟩
      obtain ⟨h1, h2, h3⟩ := own_mut hr1 (rs.keep k1 hr) (kb.keep k1) ex rfl exv mo hlk
      exact q r H' v ⟨S1, _, h1, h2, h3, rv, w⟩
    cases dst with
    | none => exact key _ fun r H' v ⟨S', σ2', h1, h2, h3, rv, w⟩ => w B σ H' .refl h1 h2 h3
    | some j => exact key _ fun r H' v ⟨S', σ2', h1, h2, h3, rv, w⟩ => w B _ H' .refl h1 (h2.setD rv) h3
theorem st_fset {o e : R} {ci k : Nat} {f : Str} {eo ee : Expr} {pos' pos : Pos} (ok : ClsOk X.K cx ci) (hf : (cx.lay ci)[k]? = some f) (ho : PE X eo (liftE X.K cx (wpE T c o))) (he : PE X ee (liftE X.K cx (wpE T c e))) (hs : swapsWith ee (some (.Attribute eo f pos')) pos.line X.env = pure false) :
    PS X (.Assign [.Attribute eo f pos'] ee pos) (liftS X.K cx (wpS T c (.fset o ci k e))) :=
  psImp (ps_fld ho he hs) fun D σ H ⟨B, S, σ2, hr, rs, kb, w⟩ => stepSE hc hr rs kb w fun y S1 v H1 hr1 k1 rs1 kb1 r1 w => by
    obtain ⟨d, S2, w, hr2, rd, rs2, kb2⟩ := stepBx hc hr rs kb hr1 k1 r1 w
    refine stepSE hc hr2 rs2 kb2 w fun x S3 xv H3 hr3 k3 rs3 kb3 r3 ⟨a, fs, ex, ea, hle, w⟩ => ?_
    subst ex
    cases r3.1
    obtain ⟨dx, fv, h1, h2, h3, h4⟩ := hr3 a _ ea
    have rd3 := RepV.keep (k3.tups hr2) _ _ rd
    obtain ⟨g1, g2, g3⟩ := putF_rel rd3 fv _ k fs ok.nd h2 h3 hf hle h4
    have hl : fv.length < 1000 := by have := h4.length; have := ok.few; simp at *; omega
    refine ⟨a, _, dx, fv, rfl, h1, ok.cl, ok.no f (List.mem_of_getElem? hf), hl, ?_⟩
    have hs : ∀ o, H3 a = some o → seqish o = false := fun o e => by rw [h1] at e; cases e; rfl
    obtain ⟨q1, q2⟩ := trk_mut (h' := .ins (cx.adr ci) dx (putF f v fv)) (o' := .ins ci (setF fs k d)) rs3 hr3 kb3 ea hs ⟨dx, _, upd_same, g1, g2, g3.keep (tupS_upd hs)⟩
    exact w B σ _ .refl q1 (rs3.keep q2 hr3) (kb3.keep q2)
omit hc in
def gFld (K : Frag) (ta : TE) (f : Str) : TG := fun v σ H Q => ta σ H fun x H2 => ∃ a C dx fs, x = .ref a ∧ H2 a = some (.ins C dx fs) ∧ Cls K C ∧ NoAttr K C f ∧ fs.length < 1000 ∧ Q σ (upd H2 a (.ins C dx (putF f v fs)))
omit hc in
theorem pg_fld {o : Expr} {f : Str} {pos : Pos} {ta : TE} (ho : PE X o ta) : PG X (.Attribute o f pos) (gFld X.K ta f) := by
  refine ⟨fun pins s σ H v u Q I r h => ?_⟩
  rw [assign_Attribute]
  refine wpAny_bind (wpAny_holding (thn (ho.run pins s σ H _ I h) fun ov s1 ⟨x, H1, I1, r1, a, C, dx, fs, ex, ea, c, n, l, q⟩ => ?_))
  subst ex
  obtain rfl : ov = Value.ref a := r1
  refine wpAny_bind (wpAny_standAt (wpAny_bind (wpAny_holding (setattr_ok I1 ea c n l r fun s3 I3 => ?_))))
  exact wpAny_release ⟨σ, _, I3, q⟩
theorem st_setNAN {o e : R} {i j ci k : Nat} {x y f : Str} {eo ee : Expr} {px py pa pt pos : Pos} {kt : Nat} (hcalm : X.calm = true) (ok : ClsOk X.K cx ci) (hf : (cx.lay ci)[k]? = some f) (g1 : PG X (.Name x px) (gName i)) (g2 : PG X (.Name y py) (gName j)) (ho : PE X eo (liftE X.K cx (wpE T c o))) (he : PE X ee (liftE X.K cx (wpE T c e)))
    (hs : swapsWithSole [.Tuple [.Name x px, .Attribute eo f pa, .Name y py] kt pt] ee pos.line X.env = pure false) (hw : swappedStores [.Tuple [.Name x px, .Attribute eo f pa, .Name y py] kt pt] ee X.env = pure none) :
    PS X (.Assign [.Tuple [.Name x px, .Attribute eo f pa, .Name y py] kt pt] ee pos) (liftS X.K cx (wpS T c (.setNAN i o ci k j e))) :=
  psImp (ps_asg he (pg_seq hcalm (pgs_cons g1 (pgs_cons (pg_fld ho) (pgs_cons g2 pgs_nil rfl) rfl) rfl) rfl rfl) hs hw rfl) fun D σ H ⟨B, S, σ2, hr, rs, kb, w⟩ => stepSE hc hr rs kb w fun x S1 v H1 hr1 k1 rs1 kb1 r1 w => by
    obtain ⟨cn, ⟨d0, d1, d2, e1, w⟩, hcn⟩ := view_of hr1 r1.1 w
    have key : ∀ (a : Addr) (vs : List V), v = .ref a → (SqL X.K H1 a vs ∨ SqT X.K H1 a vs) → RepL X.K H1 [d0, d1, d2] vs → gSeq X.K 3 (gCons (gName i) (gCons (gFld X.K (liftE X.K cx (wpE T c o)) f) (gCons (gName j) gNil))) v σ H1 D.nx := fun a vs ev hs r => by
      obtain ⟨v0, v1, v2, rfl, h0, h1, h2⟩ : ∃ v0 v1 v2, vs = [v0, v1, v2] ∧ RepV X.K H1 d0 v0 ∧ RepV X.K H1 d1 v1 ∧ RepV X.K H1 d2 v2 := by
        obtain ⟨v0, r0, rfl, h0, r⟩ := r
        obtain ⟨v1, r1, rfl, h1, r⟩ := r
        obtain ⟨v2, r2, rfl, h2, r⟩ := r
        cases r
        exact ⟨_, _, _, rfl, h0, h1, h2⟩
      refine ⟨a, [v0, v1, v2], ev, hs, rfl, v0, _, rfl, v1, _, rfl, stepSE hc hr1 (rs1.setD h0) kb1 w fun y S3 xv H3 hr3 k3 rs3 kb3 r3 ⟨b, fs, ex, ea, hle, w⟩ => ?_⟩
      subst ex
      cases r3.1
      obtain ⟨dx, fv, q1, q2, q3, q4⟩ := hr3 b _ ea
      have rd3 := RepV.keep (k3.tups hr1) _ _ h1
      have rv3 := RepV.keep (k3.tups hr1) _ _ h2
      obtain ⟨g1, g2, g3⟩ := putF_rel rd3 fv _ k fs ok.nd q2 q3 hf hle q4
      have hl : fv.length < 1000 := by have := q4.length; have := ok.few; simp at *; omega
      refine ⟨b, _, dx, fv, rfl, q1, ok.cl, ok.no f (List.mem_of_getElem? hf), hl, v2, [], rfl, rfl, ?_⟩
      have hs : ∀ o, H3 b = some o → seqish o = false := fun o e => by rw [q1] at e; cases e; rfl
      obtain ⟨p1, p2⟩ := trk_mut (h' := .ins (cx.adr ci) dx (putF f v1 fv)) (o' := .ins ci (setF fs k d1)) rs3 hr3 kb3 ea hs ⟨dx, _, upd_same, g1, g2, g3.keep (tupS_upd hs)⟩
      exact w B _ _ .refl p1 ((rs3.keep p2 hr3).setD (RepV.keep (p2.tups hr3) _ _ rv3)) (kb3.keep p2)
    cases cn with
    | l ds' => cases e1; obtain ⟨p, vs, ev, h, r⟩ := hcn; exact key p vs ev (.inl (SqL.of h)) r
    | f ds' => cases e1; obtain ⟨p, vs, ev, h, r⟩ := hcn; exact key p vs ev (.inl h) r
    | t ds' => cases e1; obtain ⟨p, vs, ev, h, r⟩ := hcn; exact key p vs ev (.inr h) r
    | _ => cases e1
theorem st_faug {o e : R} {ci k : Nat} {f : Str} {eo ee : Expr} {tpos pos : Pos} (ok : ClsOk X.K cx ci) (hf : (cx.lay ci)[k]? = some f) (ho : PE X eo (liftE X.K cx (wpE T c o))) (he : PE X ee (liftE X.K cx (wpE T c e))) :
    PS X (.AugAssign (.Attribute eo f tpos) .Add ee pos) (liftS X.K cx (wpS T c (.faug o ci k e))) :=
  psImp (ps_fldaug ho he in_add) fun D σ H ⟨B, S, σ2, hr, rs, kb, w⟩ => stepSE hc hr rs kb w fun x S1 xv H1 hr1 k1 rs1 kb1 r1 ⟨a, fs, i, ex, ea, ef, w⟩ => by
    subst ex
    cases r1.1
    obtain ⟨dx, fv, h1, h2, h3, h4⟩ := hr1 a _ ea
    obtain ⟨u, h5, h6⟩ := lookup_fld hc ok.nd h2 hf h4 ef
    cases h6
    refine ⟨a, _, dx, fv, _, rfl, h1, ok.cl, ok.no f (List.mem_of_getElem? hf), h5, stepSE hc hr1 rs1 kb1 w fun y S2 yv H2 hr2 k2 rs2 kb2 r2 ⟨j, fs', ey, ea', hlt, w⟩ => ?_⟩
    subst ey
    cases r2.1
    refine ⟨i, j, rfl, rfl, ?_⟩
    obtain ⟨dx', fv', g1, g2, g3, g4⟩ := hr2 a _ ea'
    obtain ⟨p1, p2, p3⟩ := putF_rel (d := .int (i + j)) (v := .int (i + j)) rfl fv' _ k fs' ok.nd g2 g3 hf (Nat.le_of_lt hlt) g4
    have hl : fv'.length < 1000 := by have := g4.length; have := ok.few; simp at *; omega
    refine ⟨dx', fv', g1, hl, ?_⟩
    have hs : ∀ o, H2 a = some o → seqish o = false := fun o e => by rw [g1] at e; cases e; rfl
    obtain ⟨q1, q2⟩ := trk_mut (h' := .ins (cx.adr ci) dx' (putF f (.int (i + j)) fv')) (o' := .ins ci (setF fs' k (.int (i + j)))) rs2 hr2 kb2 ea' hs ⟨dx', _, upd_same, p1, p2, p3.keep (tupS_upd hs)⟩
    exact w B σ _ .refl q1 (rs2.keep q2 hr2) (kb2.keep q2)
/-- a slot's own container comes to stand in the heap -/
theorem st_box {i : Nat} {D : Ends} {σ : L2.St} {H : Hp} {r : R} (w : liftS X.K cx (wpS T c (.seq (.box i) r)) D σ H) : liftS X.K cx (wpS T c r) D σ H := by
  obtain ⟨B, S, σ2, hr, rs, kb, x, ex, w⟩ := w
  obtain ⟨xv, exv, rx⟩ := rs.rx.2 i _ ex
  have same : ∀ d, x = .d d → σ2.set i (some (.d d)) = σ2 := fun d e => by
    subst e
    obtain ⟨hi, e⟩ := List.getElem?_eq_some_iff.mp ex
    rw [← e]; exact List.set_getElem_self hi
  have go : ∀ (a : Addr) (o : O), own x = true → xv = .ref a → RelO X.K cx H a o → wpS T c r (σ2.set i (some (.d (.ref a)))) (su S a o) (nxS X.K cx B D.nx) (rtS X.K cx B D.rt) (nxS X.K cx B D.bk) (nxS X.K cx B D.ct) → liftS X.K cx (wpS T c r) D σ H := fun a o hx e ro w => by
    subst e
    obtain ⟨g1, g2, g3⟩ := rs.ow i x a ex hx exv
    refine ⟨B, su S a o, _, hr.box ro, rs.chg (x' := .d (.ref a)) ex hx exv (show RepV X.K H (.ref a) (.ref a) from rfl) rfl fun y v n1 n2 ry => ?_, ⟨fun b z => ?_, kb.hn⟩, w⟩
    · cases y with
      | d d => exact ry
      | vl ds => obtain ⟨b, vs, rfl, h, n, rl⟩ := ry; exact ⟨b, vs, rfl, h, by rw [su_ne fun z => n1 rfl (by rw [z])]; exact n, rl⟩
      | bw ds => obtain ⟨b, vs, rfl, h, n, rl⟩ := ry; exact ⟨b, vs, rfl, h, by rw [su_ne fun z => n2 rfl (by rw [z])]; exact n, rl⟩
      | vd ds => obtain ⟨b, vs, rfl, h, n, rl⟩ := ry; exact ⟨b, vs, rfl, h, by rw [su_ne fun z => n1 rfl (by rw [z])]; exact n, rl⟩
      | bd ds => obtain ⟨b, vs, rfl, h, n, rl⟩ := ry; exact ⟨b, vs, rfl, h, by rw [su_ne fun z => n2 rfl (by rw [z])]; exact n, rl⟩
      | fz ds =>
        obtain ⟨b, vs, rfl, h, rl⟩ := ry
        refine ⟨b, vs, rfl, ?_, rl⟩
        rcases h with ⟨ob, h, n⟩ | h
        · refine .inl ⟨ob, h, ?_⟩
          rw [su_ne]
          · exact n
          · rintro rfl
            obtain ⟨h', z, s⟩ := ro.some
            rw [h] at z; cases z; cases s
        · exact .inr h
      | st ds => exact ry.elim
    · obtain ⟨f1, f2, f3⟩ := kb.st b z
      exact ⟨by rw [su_ne fun q : b = a => g1 (by rw [← q]; exact z)]; exact f1, f2, f3⟩
  cases x with
  | d d => exact ⟨B, S, σ2, hr, rs, kb, by
    have w : wpS T c r (σ2.set i (some (.d d))) S (nxS X.K cx B D.nx) (rtS X.K cx B D.rt) (nxS X.K cx B D.bk) (nxS X.K cx B D.ct) := w
    rw [same d rfl] at w; exact w⟩
  | vl ds => obtain ⟨a, vs, rfl, h, n, rl⟩ := rx; exact go a (.lst ds) rfl rfl ⟨vs, h, rl⟩ (w a n)
  | vd ds => obtain ⟨a, vs, rfl, h, n, rl⟩ := rx; exact go a (.dic ds) rfl rfl ⟨vs, h, rl⟩ (w a n)
  | bw ds => exact w.elim
  | fz ds => exact w.elim
  | bd ds => exact w.elim
  | st ds => exact w.elim
end
end DL

/-! DL14: R against the text: the matcher. -/
namespace DL
open PySem L2 PySem.Spec PyProof.Rows
structure Nm where
  fnm : Nat → Str
  mnm : Nat → Str
  gnm : Nat → Str
  cnm : Nat → Str
  lay : Nat → List Str
  isF : Nat → Bool
  isM : Nat → Bool
  isG : Nat → Bool
  isC : Nat → Bool
  isD : Nat → Bool
  isL : Nat → Bool
def glB (sc : Scope) (x : Str) : Bool := match sc.names.lookup x with
  | some .globalImplicit => true
  | _ => false
def visB (sc : Scope) (x : Str) : Bool := match sc.names.lookup x with
  | some .local => true
  | some .cell => true
  | some .free => true
  | _ => false
def locB (sc : Scope) (x : Str) : Bool := match sc.names.lookup x with
  | some .local => true
  | _ => false
def celB (sc : Scope) (x : Str) : Bool := match sc.names.lookup x with
  | some .cell => true
  | _ => false
/-- a local; where it may be, a cell -/
def lcB (c : Bool) (sc : Scope) (x : Str) : Bool := locB sc x || (c && celB sc x)
def noDbg (x : Str) : Bool := !(x == ("__debug__" : Str)) && !(x == ("__classdict__" : Str))
def vOk (N : List Str) (sc : Scope) (i : Nat) (x : Str) : Bool := decide (N[i]? = some x) && visB sc x && noDbg x
def gOk (sc : Scope) (x : Str) : Bool := glB sc x && noDbg x
def notStar : Expr → Bool
  | .Starred _ _ => false
  | _ => true
def noSup : Expr → Bool
  | .Call (.Name _ _) [] [] _ => false
  | _ => true
def noMark : Expr → Bool
  | .Set _ _ _ => false
  | _ => true
def plainI : Expr → Bool
  | .Slice _ _ _ _ => false
  | _ => true
def valF : Expr → Bool
  | .UnaryOp _ _ _ => false
  | .BoolOp _ _ _ => false
  | .IfExp _ _ _ _ => false
  | .Compare _ _ _ _ => false
  | _ => true
def isTupE : Expr → Bool
  | .Tuple _ _ _ => true
  | _ => false
def noSet : Expr → Bool
  | .Set _ _ _ => false
  | _ => true
def binO : O2 → Operator → Bool
  | .add, .Add => true
  | .sub, .Sub => true
  | .mul, .Mult => true
  | .fdiv, .FloorDiv => true
  | .mod, .Mod => true
  | .pow, .Pow => true
  | _, _ => false
def cmpO : O2 → CmpOp → Bool
  | .eq, .Eq => true
  | .ne, .NotEq => true
  | .eqh, .Eq => true
  | .neh, .NotEq => true
  | .lt, .Lt => true
  | .le, .LtE => true
  | .gt, .Gt => true
  | .ge, .GtE => true
  | .is, .Is => true
  | .isnt, .IsNot => true
  | .mem, .In => true
  | .nmem, .NotIn => true
  | .memh, .In => true
  | .nmemh, .NotIn => true
  | _, _ => false
def o1N : O1 → Str
  | .len => "len"
  | .int => "int"
  | .str => "str"
  | .list => "list"
  | .tuple => "tuple"
  | .sorted => "sorted"
  | .all => "all"
  | .any => "any"
  | .dict => "dict"
  | .dictP => "dict"
  | .sortedP => "sorted"
  | .sum => "sum"
  | .sortedN => "sorted"
  | .sortedDn => "sorted"
  | .listDn => "list"
  | .listK => "list"
  | .lenDn => "len"
  | .maxl => "max"
  | .minl => "min"
  | _ => ""
def o1B : O1 → Bool
  | .neg => false
  | .isi _ => false
  | _ => true
def tyN (t : Ty) : Str := Str.ofString t.nm
def mN : M → Str
  | .append => "append"
  | .pop => "pop"
  | .popAt => "pop"
  | .insert => "insert"
  | .extend => "extend"
  | .clear => "clear"
  | .setI => ""
  | .remove => "remove"
def bmN : BM → Str
  | .index => "index"
  | .count => "count"
  | .join => "join"
  | .split => "split"
def mA0 : M → Bool
  | .pop => true
  | .clear => true
  | _ => false
def mA1 : M → Bool
  | .append => true
  | .popAt => true
  | .insert => true
  | .extend => true
  | .remove => true
  | _ => false
def noStars (es : List Expr) : Bool := es.all notStar && decide (es.length < 20)
def tgB (N : List Str) (c : Bool) (sc : Scope) : Tg → Expr → Bool
  | .nm i, .Name x _ => decide (N[i]? = some x) && lcB c sc x
  | .tp is, .Tuple es _ _ => go is es
  | _, _ => false
where go : List Nat → List Expr → Bool
  | [], [] => true
  | i :: is, .Name x _ :: es => decide (N[i]? = some x) && lcB c sc x && go is es
  | _, _ => false
def ownN (N : List Str) (is : List Nat) : List (Str × Nat) := is.map fun i => (N.getD i "", i)
def atL (pos pos' : Pos) : Bool := pos.endLine == pos'.line
section
variable (nm : Nm) (N : List Str)
mutual
def mE : R → Bool → Scope → Expr → Bool
  | .v i, tt, sc, e => match e with
    | .Name x _ => vOk N sc i x
    | _ => false
  | .i n, tt, sc, e => match e with
    | .Constant (.int m) _ _ => decide (n = m) && !tt
    | _ => false
  | .s x, tt, sc, e => match e with
    | .Constant (.str y) _ _ => decide (y = sv x) && !tt
    | _ => false
  | .b x, tt, sc, e => match e with
    | .Constant (.bool y) _ _ => decide (x = y)
    | _ => false
  | .n, tt, sc, e => match e with
    | .Constant .none _ _ => !tt
    | _ => false
  | .g k, tt, sc, e => match e with
    | .Name x _ => decide (x = nm.gnm k) && gOk sc x && nm.isG k
    | _ => false
  | .o1 o a, tt, sc, e => match e with
    | .UnaryOp .USub x _ => decide (o = .neg) && mE a false sc x && !tt
    | .Call (.Name f _) [x] [] _ => o1B o && decide (f = o1N o) && gOk sc f && notStar x && mE a false sc x
    | .Call (.Name f _) [x, .Name t _] [] _ => match o with
      | .isi ty => decide (f = ("isinstance" : Str)) && gOk sc f && decide (t = tyN ty) && gOk sc t && notStar x && mE a false sc x
      | _ => false
    | _ => false
  | .o2 o a b, tt, sc, e => match e with
    | .BinOp l op r _ => binO o op && mE a false sc l && mE b false sc r && !tt
    | .Compare l [op] [r] _ => cmpO o op && noMark r && mE a false sc l && mE b false sc r
    | .Subscript l r _ => decide (o = .idx) && plainI r && mE a false sc l && mE b false sc r
    | .Call (.Name f _) [x, y] [] _ => ((decide (o = .min) && decide (f = ("min" : Str))) || (decide (o = .max) && decide (f = ("max" : Str)))) && gOk sc f && notStar x && notStar y && mE a false sc x && mE b false sc y
    | _ => false
  | .tup as, tt, sc, e => match e with
    | .Tuple es _ _ => mA as sc es && !tt
    | _ => false
  | .lst as, tt, sc, e => match e with
    | .List es _ => mA as sc es && !tt
    | _ => false
  | .dct, tt, sc, e => match e with
    | .Dict [] [] _ => !tt
    | _ => false
  | .dctp ps, tt, sc, e => match e with
    | .Dict keys values _ => !tt && decide (keys.length ≤ 15) && decide (1 ≤ keys.length) && mPr ps sc keys values
    | _ => false
  | .get1 o k, tt, sc, e => match e with
    | .Call (.Attribute eo f apos) [ek] [] pos => decide (f = ("get" : Str)) && noSup eo && atL apos pos && notStar ek && mE o false sc eo && mE k false sc ek
    | _ => false
  | .dpop o k, tt, sc, e => match e with
    | .Call (.Attribute eo f apos) [ek] [] pos => decide (f = ("pop" : Str)) && noSup eo && atL apos pos && notStar ek && mE o false sc eo && mE k false sc ek
    | _ => false
  | .get2 o k d, tt, sc, e => match e with
    | .Call (.Attribute eo f apos) [ek, ed] [] pos => decide (f = ("get" : Str)) && noSup eo && atL apos pos && notStar ek && notStar ed && mE o false sc eo && mE k false sc ek && mE d false sc ed
    | _ => false
  | .one a, tt, sc, e => match e with
    | .BoolOp op [x] _ => mE a tt sc x
    | .BoolOp _ _ _ => false
    | _ => false
  | .and a r, tt, sc, e => match e with
    | .BoolOp .And (x :: y :: rest) p => mE a tt sc x && mE r tt sc (.BoolOp .And (y :: rest) p)
    | _ => false
  | .or a r, tt, sc, e => match e with
    | .BoolOp .Or (x :: y :: rest) p => mE a tt sc x && mE r tt sc (.BoolOp .Or (y :: rest) p)
    | _ => false
  | .not a, tt, sc, e => match e with
    | .UnaryOp .Not x _ => mE a tt sc x
    | _ => false
  | .ife k a b, tt, sc, e => match e with
    | .IfExp ek ea eb _ => mE k true sc ek && mE a false sc ea && mE b false sc eb && !tt
    | _ => false
  | .chain o o' a b k, tt, sc, e => match e with
    | .Compare l [op, op'] [m, r] _ => cmpO o op && cmpO o' op' && noMark m && noMark r && mE a false sc l && mE b false sc m && mE k false sc r
    | _ => false
  | .slc a lo hi, tt, sc, e => match e with
    | .Subscript x (.Slice l h none _) _ => !tt && mE a false sc x && (match l with
        | none => (match lo with | .n => true | _ => false)
        | some l => (match lo with | .n => false | _ => true) && mE lo false sc l) && (match h with
        | none => (match hi with | .n => true | _ => false)
        | some h => (match hi with | .n => false | _ => true) && mE hi false sc h)
    | _ => false
  | .call f as, tt, sc, e => match e with
    | .Call (.Name x _) es [] _ => decide (x = nm.fnm f) && gOk sc x && nm.isF f && noStars es && mA as sc es && (match es with | [] => (match as with | .nil => true | _ => false) | _ => true)
    | _ => false
  | .meth f o as, tt, sc, e => match e with
    | .Call (.Attribute eo m apos) es [] pos => decide (m = nm.mnm f) && nm.isM f && noSup eo && atL apos pos && noStars es && mE o false sc eo && mA as sc es && (match es with | [] => (match as with | .nil => true | _ => false) | _ => true)
    | _ => false
  | .make ci as, tt, sc, e => match e with
    | .Call (.Name x _) (e :: es) [] _ => decide (x = nm.cnm ci) && gOk sc x && nm.isC ci && noStars (e :: es) && mA as sc (e :: es) && !tt
    | _ => false
  | .maken ci as, tt, sc, e => match e with
    | .Call (.Name x _) (e :: es) [] _ => decide (x = nm.cnm ci) && gOk sc x && nm.isD ci && noStars (e :: es) && mA as sc (e :: es) && !tt
    | _ => false
  | .fld o ci k, tt, sc, e => match e with
    | .Attribute eo f _ => decide ((nm.lay ci)[k]? = some f) && nm.isL ci && noSup eo && mE o false sc eo
    | _ => false
  | .hm m o as, tt, sc, e => match e with
    | .Call (.Attribute eo f apos) es [] pos => decide (f = mN m) && noSup eo && atL apos pos && noStars es && mE o false sc eo && !tt && (match es with
      | [] => mA0 m && (match as with | .nil => true | _ => false)
      | _ => mA1 m && mA as sc es)
    | _ => false
  | .comp tg elt it tst, tt, sc, e => match e with
    | .ListComp eelt [⟨etg, eit, ifs, 0⟩] scope _ => !tt && tgB N false (relS scope sc) tg etg && mI it (isTupE etg) sc eit && blkC N sc scope (ownN N tg.is) && noSet eit && mE elt false (relS scope sc) eelt && (match ifs with
      | [] => (match tst with | .b true => true | _ => false)
      | [k] => mE tst true (relS scope sc) k
      | _ => false)
    | _ => false
  | .lockE a, tt, sc, e => !tt && mE a false sc e
  | .lockEN a, tt, sc, e => !tt && mE a false sc e
  | .lend i a, tt, sc, e => valF e && mE a false sc e
  | .lockV a, tt, sc, e => !tt && mE a false sc e
  | .dctn1 k v, tt, sc, e => match e with
    | .Dict [some ek] [ev] _ => !tt && mE k false sc ek && mE v false sc ev
    | _ => false
  | .dctn, tt, sc, e => match e with
    | .Dict [] [] _ => !tt
    | _ => false
  | .stp a k, tt, sc, e => match e with
    | .Subscript x (.Slice none none (some y) _) _ => !tt && mE a false sc x && mE k false sc y
    | _ => false
  | .sIt a, tt, sc, e => match e with
    | .Call (.Name f _) [.Call (.Attribute eo g apos) [] [] cpos] [] _ => !tt && decide (f = ("sorted" : Str)) && gOk sc f && decide (g = ("items" : Str)) && noSup eo && atL apos cpos && mE a false sc eo
    | _ => false
  | .rev a, tt, sc, e => match e with
    | .Subscript eo (.Slice none none (some (.UnaryOp .USub (.Constant (.int 1) _ _) _)) _) _ => !tt && mE a false sc eo
    | _ => false
  | .lrg a, tt, sc, e => match e with
    | .Call (.Name f _) [.Call (.Name g _) [x] [] _] [] _ => !tt && decide (f = ("list" : Str)) && gOk sc f && decide (g = ("range" : Str)) && gOk sc g && notStar x && mE a false sc x
    | _ => false
  | .setop k a, tt, sc, e => match e with
    | .Call (.Name f _) [.Call (.Name g _) [x] [] _] [] _ => !tt && decide (f = (if k then ("sorted" : Str) else ("len" : Str))) && gOk sc f && decide (g = ("set" : Str)) && gOk sc g && notStar x && mE a false sc x
    | _ => false
  | .upper a, tt, sc, e => match e with
    | .Call (.Attribute eo f apos) [] [] pos => !tt && decide (f = ("upper" : Str)) && noSup eo && atL apos pos && mE a false sc eo
    | _ => false
  | .bm1 m o a, tt, sc, e => match e with
    | .Call (.Attribute eo f apos) [x] [] pos => !tt && decide (f = bmN m) && noSup eo && atL apos pos && notStar x && mE o false sc eo && mE a false sc x
    | _ => false
  | _, _, _, _ => false
def mA : R → Scope → List Expr → Bool
  | .nil, sc, es => match es with
    | [] => true
    | _ => false
  | .cons a r, sc, es => match es with
    | e :: es => notStar e && mE a false sc e && mA r sc es
    | _ => false
  | .consb a r, sc, es => match es with
    | e :: es => notStar e && mE a false sc e && mA r sc es
    | _ => false
  | _, _, _ => false
/-- the pairs of a display -/
def mPr : R → Scope → List (Option Expr) → List Expr → Bool
  | .nil, sc, ks, vs => match ks, vs with
    | [], [] => true
    | _, _ => false
  | .pr k v r, sc, ks, vs => match ks, vs with
    | some ek :: ks, ev :: vs => mE k false sc ek && mE v false sc ev && mPr r sc ks vs
    | _, _ => false
  | _, _, _, _ => false
/-- what is walked; the target: a tuple? -/
def mI : R → Bool → Scope → Expr → Bool
  | .itv i, tp, sc, e => match e with
    | .Name x _ => vOk N sc i x
    | _ => false
  | .ite a, tp, sc, e => mE a false sc e
  | .itk a, tp, sc, e => mE a false sc e
  | .itkn a, tp, sc, e => mE a false sc e
  | .itms a, tp, sc, e => match e with
    | .Call (.Attribute eo f apos) [] [] pos => tp && decide (f = ("items" : Str)) && noSup eo && atL apos pos && mE a false sc eo
    | _ => false
  | .rng a, tp, sc, e => match e with
    | .Call (.Name f _) [x] [] _ => decide (f = ("range" : Str)) && gOk sc f && notStar x && mE a false sc x
    | _ => false
  | .rng2 a b, tp, sc, e => match e with
    | .Call (.Name f _) [x, y] [] _ => decide (f = ("range" : Str)) && gOk sc f && notStar x && notStar y && mE a false sc x && mE b false sc y
    | _ => false
  | .enuk a, tp, sc, e => match e with
    | .Call (.Name f _) [x] [] _ => tp && decide (f = ("enumerate" : Str)) && gOk sc f && notStar x && mE a false sc x
    | _ => false
  | .enu a, tp, sc, e => match e with
    | .Call (.Name f _) [x] [] _ => tp && decide (f = ("enumerate" : Str)) && gOk sc f && notStar x && mS a sc x
    | _ => false
  | .zip a b, tp, sc, e => match e with
    | .Call (.Name f _) [x, y] [] _ => tp && decide (f = ("zip" : Str)) && gOk sc f && notStar x && notStar y && mS a sc x && mS b sc y
    | _ => false
  | _, _, _, _ => false
def mS : R → Scope → Expr → Bool
  | .itv i, sc, e => match e with
    | .Name x _ => vOk N sc i x
    | _ => false
  | .ite a, sc, e => mE a false sc e
  | _, _, _ => false
end
end
end DL

/-! DL15: the matcher is sound (expressions). -/
namespace DL
open PySem L2 PySem.Spec PyProof.Rows
def bltNames : List Str := ["len", "int", "str", "list", "tuple", "sorted", "all", "any", "min", "max", "range", "enumerate", "zip", "isinstance", "bool", "dict", "sum", "set"]
structure Okx (T : Tbl) (c : Nat → List Vx → Hs → VK2 → Prop) (cx : Cls2) (nm : Nm) (N : List Str) (X : Cx) : Prop where
  calm : X.calm = true
  hN : X.N = N
  nd : N.Nodup
  un : X.A.units + 65 < cLine
  blt : ∀ x ∈ bltNames, X.mg x = none
  lay : cx.lay = nm.lay
  wd : cx.w = X.w
  fn : ∀ f, nm.isF f = true → ∃ k fa fd ps np, FnOk X.prog X.w X.K X.mg X.base CX0 k fa fd ps (spOf X.K cx c f np) ∧ NumOk c f np ∧ Room k X.A ∧ X.mg (nm.fnm f) = some (.ref fa) ∧ PySem.W.keepIn X.K (.ref fa) = true ∧ Binds X.K fd ps []
  mt : ∀ f, nm.isM f = true → ∃ k fa fd ps np, Cls X.K (cx.adr (T.fcls f)) ∧ Meth X.K (cx.adr (T.fcls f)) (nm.mnm f) fa ∧ nm.mnm f ∉ cx.lay (T.fcls f) ∧ FnOk X.prog X.w X.K X.mg X.base CX0 k fa fd ps (spOf X.K cx c f np) ∧ NumOk c f np ∧ Room k X.A ∧ Binds X.K fd ps []
  mkc : ∀ ci, nm.isC ci = true → ∃ k fa fd ps np, Mk X.K (cx.adr ci) fa ∧ FnOk X.prog X.w X.K X.mg X.base CX0 k fa fd ps (spOf X.K cx c (T.cini ci) np) ∧ NumOk c (T.cini ci) np ∧ Room (k + 1) X.A ∧ X.mg (nm.cnm ci) = some (.ref (cx.adr ci)) ∧ Binds X.K fd ps []
  mkd : ∀ ci, nm.isD ci = true → ∃ k fa fd ps np ds, Mk X.K (cx.adr ci) fa ∧ FnOk X.prog X.w X.K X.mg X.base CX0 k fa fd ps (spOf X.K cx c (T.cini ci) np) ∧ NumOk c (T.cini ci) np ∧ Room (k + 1) X.A ∧ X.mg (nm.cnm ci) = some (.ref (cx.adr ci)) ∧ Vals [V.non] ds ∧ Binds X.K fd ps ds
  cl : ∀ ci, nm.isL ci = true → ClsOk X.K cx ci
  gl : ∀ k, nm.isG k = true → ∃ v u, X.mg (nm.gnm k) = some u ∧ RelV v u ∧ own (T.glob k) = false ∧ ∀ S H, Rel X.K cx S H → RepX X.K H S (T.glob k) v
section
variable {T : Tbl} {c : Nat → List Vx → Hs → VK2 → Prop} {cx : Cls2} {nm : Nm} {N : List Str} {X : Cx}
theorem Okx.blk (h : Okx T c cx nm N X) (s : Shared) (H : Hp) (scope : Scope) (env : Env) (fp : List Addr) : Okx T c cx nm N (X.blk s H scope env fp) := ⟨h.calm, h.hN, h.nd, h.un, h.blt, h.lay, h.wd, h.fn, h.mt, h.mkc, h.mkd, h.cl, h.gl⟩
theorem Okx.nox (h : Okx T c cx nm N X) : Okx T c cx nm N X.nox := ⟨h.calm, h.hN, h.nd, h.un, h.blt, h.lay, h.wd, h.fn, h.mt, h.mkc, h.mkd, h.cl, h.gl⟩
theorem Okx.b (h : Okx T c cx nm N X) {x : Str} (m : decide (x ∈ bltNames) = true) : X.mg x = none := h.blt x (of_decide_eq_true m)
theorem gl_of {sc : Scope} (hs : X.env.scope = sc) {x : Str} (h : glB sc x = true) : Gl X x := by
  unfold glB at h
  unfold Gl Env.kindOf
  rw [hs]
  split at h
  · assumption
  · cases h
theorem vis_of {sc : Scope} (hs : X.env.scope = sc) {x : Str} (h : visB sc x = true) : Vis X.env.scope x := by
  unfold visB at h
  unfold Vis
  rw [hs]
  split at h
  · exact .inl (by assumption)
  · exact .inr (.inl (by assumption))
  · exact .inr (.inr (by assumption))
  · cases h
theorem loc_of {sc : Scope} {x : Str} (h : locB sc x = true) : sc.names.lookup x = some .local := by
  unfold locB at h
  split at h
  · assumption
  · cases h
theorem star_of {e : Expr} (h : notStar e = true) (es : List Expr) (env : Env) : starEach (e :: es) env = (false, eval e env) :: starEach es env := by
  cases e <;> first | rfl | cases h
theorem stars_of {es : List Expr} (h : noStars es = true) (env : Env) (pos : Pos) : (backTo pos (starEach es env)).any (·.1) = false ∧ (backTo pos (starEach es env)).all (fun x => !x.1) = true := by
  unfold noStars at h
  rw [Bool.and_eq_true] at h
  replace h := h.1
  induction es with
  | nil => exact ⟨rfl, rfl⟩
  | cons e es ih =>
    simp only [List.all_cons, Bool.and_eq_true] at h
    obtain ⟨i1, i2⟩ := ih h.2
    rw [star_of h.1]
    unfold backTo at i1 i2 ⊢
    simp only [List.map_cons, List.any_cons, List.all_cons]
    exact ⟨by simpa using i1, by simpa using i2⟩
theorem stars_tl {e : Expr} {es : List Expr} (h : noStars (e :: es) = true) : notStar e = true ∧ noStars es = true := by
  unfold noStars at h ⊢
  simp only [List.all_cons, Bool.and_eq_true, decide_eq_true_eq, List.length_cons] at h ⊢
  exact ⟨h.1.1, h.1.2, by omega⟩
theorem mark_of {op : CmpOp} {e : Expr} (h : noMark e = true) : behindInMarks op e = false := by
  cases e <;> first | rfl | cases h
theorem base_of {o : Expr} (h : noSup o = true) (m : Str) : attributeBase o m X.env (eval o X.env) = eval o X.env := by
  unfold attributeBase
  split
  · cases h
  · rfl
theorem plain_of {e : Expr} (h : plainI e = true) : PlainIx e := by
  intro o i
  cases e <;> first | rfl | cases h
theorem set_of {e : Expr} (h : noSet e = true) : ∀ x, foldedSetIterable e X.env x = pure x := by
  intro x
  cases e <;> first | rfl | cases h
theorem val_of {e : Expr} (h : valF e = true) : ∀ whole, isTrue e X.env whole = (do let v ← whole; standAt e.pos; holding [v] (truthy v)) := by
  intro w
  cases e <;> first | rfl | cases h
theorem meth_of {o : Expr} {m : Str} {apos pos : Pos} {es : List Expr} (h : noSup o = true) (hl : atL apos pos = true) (hs : noStars es = true) :
    eval (.Call (.Attribute o m apos) es [] pos) X.env = (do
      let ov ← eval o X.env
      standAt apos.atName
      let (f, first) ← holding [ov] (getMethod ov m (do return (← importBound o X.env).getD true))
      callWith pos f first (backTo pos (starEach es X.env)) (backToKw pos (keywordEach [] X.env))) := by
  have hf : methodCallForm (es.length + ([] : List Keyword).length) (backTo pos (starEach es X.env)) (backToKw pos (keywordEach [] X.env)) = true := by
    unfold methodCallForm
    rw [(stars_of hs X.env pos).2]
    unfold noStars at hs
    simp only [Bool.and_eq_true, decide_eq_true_eq] at hs
    show (true && true && decide (es.length + 0 + 0 < 30)) = true
    simp; omega
  show (do
    let ov ← attributeBase o m X.env (eval o X.env)
    standAt apos.atName
    methodCall o m apos pos X.env ov (es.length + ([] : List Keyword).length) (backTo pos (starEach es X.env)) (backToKw pos (keywordEach [] X.env))) = _
  rw [base_of h]
  unfold methodCall calleeOf methodCallPos
  rw [hf]
  have hl' : (apos.endLine == pos.line) = true := hl
  simp only [hl', Bool.not_true, Bool.false_or, if_true, pure_bind]
variable (hc : CalMono c)
include hc
/-- what the matcher of expressions tells -/
def OutE (T : Tbl) (c : Nat → List Vx → Hs → VK2 → Prop) (cx : Cls2) (X : Cx) (r : R) (tt : Bool) (e : Expr) : Prop :=
  (tt = false → PE X e (liftE X.K cx (wpE T c r))) ∧ (tt = true → PT X e (liftT X.K cx (wpE T c r)) ∧ ((∃ op vs p, e = .BoolOp op vs p) → PW X e (liftT X.K cx (wpE T c r))))
theorem out_val {r : R} {tt : Bool} {e : Expr} (h : PE X e (liftE X.K cx (wpE T c r))) (hv : valF e = true) : OutE T c cx X r tt e :=
  ⟨fun _ => h, fun _ => ⟨tst_val hc h (val_of hv), fun ⟨op, vs, p, e⟩ => by subst e; cases hv⟩⟩
omit hc in
theorem out_ff {r : R} {tt : Bool} {e : Expr} (h : PE X e (liftE X.K cx (wpE T c r))) (ht : (!tt) = true) : OutE T c cx X r tt e := ⟨fun _ => h, fun z => by subst z; cases ht⟩
omit hc in
theorem out_tst {r : R} {tt : Bool} {e : Expr} (h : PE X e (liftE X.K cx (wpE T c r))) (h2 : PT X e (liftT X.K cx (wpE T c r))) (hb : ∀ op vs p, e ≠ .BoolOp op vs p) : OutE T c cx X r tt e := ⟨fun _ => h, fun z => ⟨h2, fun ⟨op, vs, p, e⟩ => (hb _ _ _ e).elim⟩⟩
def ClmE (T : Tbl) (c : Nat → List Vx → Hs → VK2 → Prop) (cx : Cls2) (nm : Nm) (N : List Str) (r : R) : Prop := ∀ X, Okx T c cx nm N X → ∀ tt sc e, X.env.scope = sc → mE nm N r tt sc e = true → OutE T c cx X r tt e
def ClmA (T : Tbl) (c : Nat → List Vx → Hs → VK2 → Prop) (cx : Cls2) (nm : Nm) (N : List Str) (r : R) : Prop := ∀ X, Okx T c cx nm N X → ∀ sc es, X.env.scope = sc → mA nm N r sc es = true → PA X es (liftA X.K cx (wpE T c r))
def ClmI (T : Tbl) (c : Nat → List Vx → Hs → VK2 → Prop) (cx : Cls2) (nm : Nm) (N : List Str) (r : R) : Prop := ∀ X, Okx T c cx nm N X → ∀ tp sc e, X.env.scope = sc → mI nm N r tp sc e = true → ∀ tg, (tp = true → isTupE tg = true) → PI X tg e (liftI X.K cx r (wpI T c r))
def ClmS (T : Tbl) (c : Nat → List Vx → Hs → VK2 → Prop) (cx : Cls2) (nm : Nm) (N : List Str) (r : R) : Prop := ∀ X, Okx T c cx nm N X → ∀ sc e, X.env.scope = sc → mS nm N r sc e = true → PE X e (liftSrc X.K cx r (wpI T c r))
omit hc in
theorem dbg_of {x : Str} (h : noDbg x = true) : (x == ("__debug__" : Str)) = false ∧ (x == ("__classdict__" : Str)) = false := by
  unfold noDbg at h
  simp only [Bool.and_eq_true, Bool.not_eq_true'] at h
  exact h
omit hc in
theorem gOk_of {sc : Scope} (hs : X.env.scope = sc) {x : Str} (h : gOk sc x = true) : Gl X x ∧ (x == ("__debug__" : Str)) = false := by
  unfold gOk at h
  simp only [Bool.and_eq_true] at h
  exact ⟨gl_of hs h.1, (dbg_of h.2).1⟩
omit hc in
theorem vOk_of (h : Okx T c cx nm N X) {sc : Scope} (hs : X.env.scope = sc) {i : Nat} {x : Str} (m : vOk N sc i x = true) : X.N[i]? = some x ∧ Vis X.env.scope x ∧ (x == ("__debug__" : Str)) = false ∧ (x == ("__classdict__" : Str)) = false := by
  unfold vOk at m
  simp only [Bool.and_eq_true, decide_eq_true_eq] at m
  exact ⟨by rw [h.hN]; exact m.1.1, vis_of hs m.1.2, (dbg_of m.2).1, (dbg_of m.2).2⟩
theorem clm_v (i : Nat) : ClmE T c cx nm N (.v i) := fun X h tt sc e hs m => by
  unfold mE at m
  split at m
  · obtain ⟨h1, h2, h3, h4⟩ := vOk_of h hs m
    exact out_val hc (snd_v hc h1 h2 h3 h4) rfl
  · cases m
theorem clm_i (n : Int) : ClmE T c cx nm N (.i n) := fun X h tt sc e hs m => by
  unfold mE at m
  split at m
  · simp only [Bool.and_eq_true, decide_eq_true_eq] at m
    obtain ⟨rfl, m⟩ := m
    exact out_ff (snd_i hc) m
  · cases m
theorem clm_s (n : List Nat) : ClmE T c cx nm N (.s n) := fun X h tt sc e hs m => by
  unfold mE at m
  split at m
  · simp only [Bool.and_eq_true, decide_eq_true_eq] at m
    exact out_ff (snd_s hc m.1) m.2
  · cases m
theorem clm_b (n : Bool) : ClmE T c cx nm N (.b n) := fun X h tt sc e hs m => by
  unfold mE at m
  split at m
  · simp only [decide_eq_true_eq] at m
    subst m
    exact out_val hc (snd_b hc) rfl
  · cases m
theorem clm_n : ClmE T c cx nm N .n := fun X h tt sc e hs m => by
  unfold mE at m
  split at m
  · exact out_ff (snd_n hc) m
  · cases m
theorem clm_g (k : Nat) : ClmE T c cx nm N (.g k) := fun X h tt sc e hs m => by
  unfold mE at m
  split at m
  · simp only [Bool.and_eq_true, decide_eq_true_eq] at m
    obtain ⟨⟨rfl, m⟩, mg⟩ := m
    obtain ⟨g1, g2⟩ := gOk_of hs m
    obtain ⟨v, u, hm, rv, ho, rx⟩ := h.gl k mg
    exact out_val hc (peImp (pe_glob g1 hm rv g2) fun σ H Q ⟨S, σ2, hr, rs, y, e', q⟩ => by cases e'; exact fin q hr (rx S H hr) ho) rfl
  · cases m
omit hc in
theorem o1_call {o : O1} (hb : o1B o = true) (h : Okx T c cx nm N X) {x : Expr} {p pos : Pos} (hg : Gl X (o1N o)) (hst : notStar x = true) : ∀ t : TA, PA X [x] t → PE X (.Call (.Name (o1N o) p) [x] [] pos) (tCB (c1of X.K cx o) t) := fun t ht => by
  have e1 := star_of hst [] X.env
  cases o with
  | neg => cases hb
  | isi t => cases hb
  | len => exact pe_callB call1_len hg (h.b (by decide +kernel)) boot_len ht (he := e1) (hpl := rfl)
  | dict => exact pe_callTy call1_dict hg (h.b (by decide +kernel)) PyProof.Rows.boot_dict ht (he := e1) (hpl := rfl)
  | dictP => exact pe_callTy (call1_dictP h.calm) hg (h.b (by decide +kernel)) PyProof.Rows.boot_dict ht (he := e1) (hpl := rfl)
  | sorted => exact pe_callB (call1_sorted h.calm) hg (h.b (by decide +kernel)) boot_sorted ht (he := e1) (hpl := rfl)
  | sortedP => exact pe_callB call1_sortedP hg (h.b (by decide +kernel)) boot_sorted ht (he := e1) (hpl := rfl)
  | sortedN => exact pe_callB call1_sortedN hg (h.b (by decide +kernel)) boot_sorted ht (he := e1) (hpl := rfl)
  | sortedDn => exact pe_callB (call1_sortedDn h.calm h.wd) hg (h.b (by decide +kernel)) boot_sorted ht (he := e1) (hpl := rfl)
  | listK => exact pe_callTy (call1_listK h.calm) hg (h.b (by decide +kernel)) PyProof.Rows.boot_list ht (he := e1) (hpl := rfl)
  | listDn => exact pe_callTy (call1_listDn h.calm h.wd) hg (h.b (by decide +kernel)) PyProof.Rows.boot_list ht (he := e1) (hpl := rfl)
  | lenDn => exact pe_callB (call1_lenDn h.wd) hg (h.b (by decide +kernel)) boot_len ht (he := e1) (hpl := rfl)
  | sum => exact pe_callB (call1_sum h.calm) hg (h.b (by decide +kernel)) PyProof.Rows.boot_sum ht (he := e1) (hpl := rfl)
  | maxl => exact pe_callB (call1_max h.calm) hg (h.b (by decide +kernel)) PyProof.Rows.boot_max ht (he := e1) (hpl := rfl)
  | minl => exact pe_callB (call1_min h.calm) hg (h.b (by decide +kernel)) PyProof.Rows.boot_min ht (he := e1) (hpl := rfl)
  | all => exact pe_callB (call1_all h.calm) hg (h.b (by decide +kernel)) boot_all ht (he := e1) (hpl := rfl)
  | any => exact pe_callB (call1_any h.calm) hg (h.b (by decide +kernel)) boot_any ht (he := e1) (hpl := rfl)
  | int => exact pe_callTy call1_int hg (h.b (by decide +kernel)) PyProof.Rows.boot_int ht (he := e1) (hpl := rfl)
  | str => exact pe_callTy call1_str hg (h.b (by decide +kernel)) PyProof.Rows.boot_str ht (he := e1) (hpl := rfl)
  | list => exact pe_callTy call1_list hg (h.b (by decide +kernel)) PyProof.Rows.boot_list ht (he := e1) (hpl := rfl)
  | tuple => exact pe_callTy call1_tuple hg (h.b (by decide +kernel)) PyProof.Rows.boot_tuple ht (he := e1) (hpl := rfl)
theorem bool_one (t : Ty) : (tyN t) ∈ bltNames := by cases t <;> decide +kernel
omit hc in
theorem ty_boot (t : Ty) : bootBuiltins (tyN t) = some (.type t.nm) := by cases t <;> decide +kernel
omit hc in
theorem ty_name (t : Ty) : tyN t ≠ "__name__" := by cases t <;> decide +kernel
theorem clm_o1 (o : O1) {a : R} (ia : ClmE T c cx nm N a) : ClmE T c cx nm N (.o1 o a) := fun X h tt sc e hs m => by
  unfold mE at m
  split at m
  · simp only [Bool.and_eq_true, decide_eq_true_eq] at m
    obtain ⟨⟨rfl, m⟩, ht⟩ := m
    exact out_ff (snd_neg hc ((ia X h false sc _ hs m).1 rfl)) ht
  · simp only [Bool.and_eq_true, decide_eq_true_eq] at m
    obtain ⟨⟨⟨⟨hb, rfl⟩, hg⟩, hst⟩, m⟩ := m
    exact out_val hc (snd_call1 hc (o1_call hb h (gOk_of hs hg).1 hst) (star_of hst [] X.env) ((ia X h false sc _ hs m).1 rfl)) rfl
  · split at m
    · rename_i ty
      simp only [Bool.and_eq_true, decide_eq_true_eq] at m
      obtain ⟨⟨⟨⟨⟨rfl, hg⟩, rfl⟩, hg2⟩, hst⟩, m⟩ := m
      refine out_val hc (snd_isi hc (t := ty) (fun t ht => pe_callB (isi_ok ty) (gOk_of hs hg).1 (h.b (by decide +kernel)) PyProof.Rows.boot_isinstance ht (he := star_of hst _ X.env) (hpl := rfl)) (star_of hst _ X.env) rfl ((ia X h false sc _ hs m).1 rfl) ?_) rfl
      exact pe_bltn (gOk_of hs hg2).1 (h.blt _ (bool_one hc ty)) (ty_boot ty) rfl (ty_name ty) (gOk_of hs hg2).2
    · cases m
  · cases m
end
end DL

/-! DL15b: the matcher is sound (expressions, further). -/
namespace DL
open PySem L2 PySem.Spec PyProof.Rows
section
variable {T : Tbl} {c : Nat → List Vx → Hs → VK2 → Prop} {cx : Cls2} {nm : Nm} {N : List Str} {X : Cx}
variable (hc : CalMono c)
include hc
omit hc in
theorem bin_of {o : O2} {op : Operator} (h : binO o op = true) : OpR X (binaryOp op) (r2of X.K cx (op2D o)) := by
  unfold binO at h
  split at h
  · exact op2_add
  · exact op2_sub
  · exact op2_mul
  · exact op2_fdiv
  · exact op2_mod
  · exact op2_pow
  · cases h
omit hc in
theorem cmp_of (hu : X.A.units + 65 < cLine) (hw : cx.w = X.w) {o : O2} {op : CmpOp} (h : cmpO o op = true) : OpR X (compareOp op) (r2of X.K cx (op2D o)) := by
  have h1 : X.A.units + 64 < cLine := by omega
  unfold cmpO at h
  split at h
  · exact op2_eq h1
  · exact op2_ne h1
  · exact op2_eqh h1
  · exact op2_neh h1
  · exact op2_lt
  · exact op2_le
  · exact op2_gt
  · exact op2_ge
  · exact op2_is
  · exact op2_isnt
  · exact op2_mem hu hw
  · exact op2_nmem hu hw
  · exact op2_memh hu
  · exact op2_nmemh hu
  · cases h
theorem clm_o2 (o : O2) {a b : R} (ia : ClmE T c cx nm N a) (ib : ClmE T c cx nm N b) : ClmE T c cx nm N (.o2 o a b) := fun X h tt sc e hs m => by
  unfold mE at m
  split at m
  · simp only [Bool.and_eq_true, decide_eq_true_eq] at m
    obtain ⟨⟨⟨ho, m1⟩, m2⟩, ht⟩ := m
    exact out_ff (snd_bin hc (bin_of ho) ((ia X h false sc _ hs m1).1 rfl) ((ib X h false sc _ hs m2).1 rfl)) ht
  · simp only [Bool.and_eq_true, decide_eq_true_eq] at m
    obtain ⟨⟨⟨ho, hk⟩, m1⟩, m2⟩ := m
    have p1 := (ia X h false sc _ hs m1).1 rfl
    have p2 := (ib X h false sc _ hs m2).1 rfl
    exact out_tst (snd_cmp hc (cmp_of h.un h.wd ho) (mark_of hk) p1 p2) (tst_cmp hc (cmp_of h.un h.wd ho) (mark_of hk) p1 p2) (fun _ _ _ e => by cases e)
  · simp only [Bool.and_eq_true, decide_eq_true_eq] at m
    obtain ⟨⟨⟨rfl, hp⟩, m1⟩, m2⟩ := m
    exact out_val hc (snd_ix hc (ix_ok h.un h.wd) (plain_of hp) ((ia X h false sc _ hs m1).1 rfl) ((ib X h false sc _ hs m2).1 rfl)) rfl
  · simp only [Bool.and_eq_true, Bool.or_eq_true, decide_eq_true_eq] at m
    obtain ⟨⟨⟨⟨⟨ho, hg⟩, s1⟩, s2⟩, m1⟩, m2⟩ := m
    have p1 := (ia X h false sc _ hs m1).1 rfl
    have p2 := (ib X h false sc _ hs m2).1 rfl
    rcases ho with ⟨rfl, rfl⟩ | ⟨rfl, rfl⟩
    · exact out_val hc (snd_call2 hc (fun t ht => pe_callB (call2_min h.calm) (gOk_of hs hg).1 (h.b (by decide +kernel)) PyProof.Rows.boot_min ht (he := star_of s1 _ X.env) (hpl := by rw [star_of s2]; rfl)) (star_of s1 _ X.env) (star_of s2 [] X.env) p1 p2) rfl
    · exact out_val hc (snd_call2 hc (fun t ht => pe_callB (call2_max h.calm) (gOk_of hs hg).1 (h.b (by decide +kernel)) PyProof.Rows.boot_max ht (he := star_of s1 _ X.env) (hpl := by rw [star_of s2]; rfl)) (star_of s1 _ X.env) (star_of s2 [] X.env) p1 p2) rfl
  · cases m
theorem clm_tup {as : R} (ia : ClmA T c cx nm N as) : ClmE T c cx nm N (.tup as) := fun X h tt sc e hs m => by
  unfold mE at m
  split at m
  · simp only [Bool.and_eq_true] at m
    exact out_ff (snd_tup hc (ia X h sc _ hs m.1)) m.2
  · cases m
theorem clm_lst {as : R} (ia : ClmA T c cx nm N as) : ClmE T c cx nm N (.lst as) := fun X h tt sc e hs m => by
  unfold mE at m
  split at m
  · simp only [Bool.and_eq_true] at m
    exact out_ff (snd_lst hc (ia X h sc _ hs m.1)) m.2
  · cases m
theorem clm_dct : ClmE T c cx nm N .dct := fun X h tt sc e hs m => by
  unfold mE at m
  split at m
  · exact out_ff (snd_dct hc) m
  · cases m
theorem clm_one {a : R} (ia : ClmE T c cx nm N a) : ClmE T c cx nm N (.one a) := fun X h tt sc e hs m => by
  unfold mE at m
  split at m
  · have o := ia X h tt sc _ hs m
    refine ⟨fun z => ?_, fun z => ?_⟩
    · exact snd_one hc (o.1 z)
    · exact ⟨(tst_one hc (o.2 z).1).pt, fun _ => tst_one hc (o.2 z).1⟩
  · cases m
  · cases m
theorem clm_and {a r : R} (ia : ClmE T c cx nm N a) (ir : ClmE T c cx nm N r) : ClmE T c cx nm N (.and a r) := fun X h tt sc e hs m => by
  unfold mE at m
  split at m
  · simp only [Bool.and_eq_true] at m
    have o := ia X h tt sc _ hs m.1
    have o2 := ir X h tt sc _ hs m.2
    refine ⟨fun z => snd_and hc (o.1 z) (o2.1 z), fun z => ?_⟩
    have q := tst_and hc (o.2 z).1 ((o2.2 z).2 ⟨_, _, _, rfl⟩)
    exact ⟨q.pt, fun _ => q⟩
  · cases m
theorem clm_or {a r : R} (ia : ClmE T c cx nm N a) (ir : ClmE T c cx nm N r) : ClmE T c cx nm N (.or a r) := fun X h tt sc e hs m => by
  unfold mE at m
  split at m
  · simp only [Bool.and_eq_true] at m
    have o := ia X h tt sc _ hs m.1
    have o2 := ir X h tt sc _ hs m.2
    refine ⟨fun z => snd_or hc (o.1 z) (o2.1 z), fun z => ?_⟩
    have q := tst_or hc (o.2 z).1 ((o2.2 z).2 ⟨_, _, _, rfl⟩)
    exact ⟨q.pt, fun _ => q⟩
  · cases m
theorem clm_not {a : R} (ia : ClmE T c cx nm N a) : ClmE T c cx nm N (.not a) := fun X h tt sc e hs m => by
  unfold mE at m
  split at m
  · have o := ia X h tt sc _ hs m
    exact ⟨fun z => snd_not hc (o.1 z), fun z => ⟨tst_not hc (o.2 z).1, fun ⟨_, _, _, e⟩ => by cases e⟩⟩
  · cases m
theorem clm_ife {k a b : R} (ik : ClmE T c cx nm N k) (ia : ClmE T c cx nm N a) (ib : ClmE T c cx nm N b) : ClmE T c cx nm N (.ife k a b) := fun X h tt sc e hs m => by
  unfold mE at m
  split at m
  · simp only [Bool.and_eq_true] at m
    obtain ⟨⟨⟨m1, m2⟩, m3⟩, ht⟩ := m
    exact out_ff (snd_ife hc ((ik X h true sc _ hs m1).2 rfl).1 ((ia X h false sc _ hs m2).1 rfl) ((ib X h false sc _ hs m3).1 rfl)) ht
  · cases m
theorem clm_chain (o o' : O2) {a b k : R} (ia : ClmE T c cx nm N a) (ib : ClmE T c cx nm N b) (ik : ClmE T c cx nm N k) : ClmE T c cx nm N (.chain o o' a b k) := fun X h tt sc e hs m => by
  unfold mE at m
  split at m
  · simp only [Bool.and_eq_true] at m
    obtain ⟨⟨⟨⟨⟨⟨h1, h2⟩, n1⟩, n2⟩, m1⟩, m2⟩, m3⟩ := m
    have q := fun pos => snd_chain hc (pos := pos) (cmp_of h.un h.wd h1) (cmp_of h.un h.wd h2) ((ia X h false sc _ hs m1).1 rfl) ((ib X h false sc _ hs m2).1 rfl) ((ik X h false sc _ hs m3).1 rfl) (mark_of n1) (mark_of n2)
    exact out_tst (q _).1 (q _).2 (fun _ _ _ e => by cases e)
  · cases m
theorem part_of {lo : R} {l : Option Expr} {sc : Scope} (m : (match l with
        | none => (match lo with | .n => true | _ => false)
        | some l => (match lo with | .n => false | _ => true) && mE nm N lo false sc l) = true) : ClmE T c cx nm N lo → Okx T c cx nm N X → X.env.scope = sc → PartOk X T c cx lo l := by
  intro il h hs
  split at m
  · split at m
    · exact part_n hc
    · cases m
  · simp only [Bool.and_eq_true] at m
    refine part_e hc (fun e => ?_) ((il X h false sc _ hs m.2).1 rfl)
    subst e
    cases m.1
theorem clm_slc {a lo hi : R} (ia : ClmE T c cx nm N a) (il : ClmE T c cx nm N lo) (ih : ClmE T c cx nm N hi) : ClmE T c cx nm N (.slc a lo hi) := fun X h tt sc e hs m => by
  unfold mE at m
  split at m
  · rw [Bool.and_eq_true, Bool.and_eq_true, Bool.and_eq_true] at m
    obtain ⟨⟨⟨ht, m1⟩, m2⟩, m3⟩ := m
    exact out_ff (snd_slc hc ((ia X h false sc _ hs m1).1 rfl) (part_of hc m2 il h hs) (part_of hc m3 ih h hs)) ht
  · cases m
theorem as_nil {as : R} (m : (match as with | .nil => true | _ => false) = true) : as = .nil := by
  split at m
  · rfl
  · cases m
end
end DL

/-! DL15b: the matcher is sound (expressions, further). -/
namespace DL
open PySem L2 PySem.Spec PyProof.Rows
section
variable {T : Tbl} {c : Nat → List Vx → Hs → VK2 → Prop} {cx : Cls2} {nm : Nm} {N : List Str} {X : Cx}
variable (hc : CalMono c)
include hc
theorem clm_call (f : Nat) {as : R} (ia : ClmA T c cx nm N as) : ClmE T c cx nm N (.call f as) := fun X h tt sc e hs m => by
  unfold mE at m
  split at m
  · rename_i es _
    simp only [Bool.and_eq_true, decide_eq_true_eq] at m
    obtain ⟨⟨⟨⟨⟨rfl, hg⟩, hf⟩, hst⟩, m⟩, mn⟩ := m
    obtain ⟨k, fa, fd, ps, np, F, hn, hr, hm, hk, hb⟩ := h.fn f hf
    have pa := ia X h sc _ hs m
    cases es with
    | nil => exact out_val hc (snd_call0 hc F hn hr (gOk_of hs hg).1 hm hk hb pa (gOk_of hs hg).2 (as_nil hc mn)) rfl
    | cons e es => exact out_val hc (snd_call hc F hn hr (gOk_of hs hg).1 hm hk hb pa (gOk_of hs hg).2 (star_of (stars_tl hst).1 _ _) (stars_of (stars_tl hst).2 _ _).1) rfl
  · cases m
theorem clm_meth (f : Nat) {o as : R} (io : ClmE T c cx nm N o) (ia : ClmA T c cx nm N as) : ClmE T c cx nm N (.meth f o as) := fun X h tt sc e hs m => by
  unfold mE at m
  split at m
  · rename_i es _
    simp only [Bool.and_eq_true, decide_eq_true_eq] at m
    obtain ⟨⟨⟨⟨⟨⟨⟨rfl, hf⟩, hsu⟩, hl⟩, hst⟩, m1⟩, m⟩, mn⟩ := m
    obtain ⟨k, fa, fd, ps, np, hcl, hmt, hno, F, hn, hr, hb⟩ := h.mt f hf
    have pa := ia X h sc _ hs m
    have po := (io X h false sc _ hs m1).1 rfl
    cases es with
    | nil =>
      have e := as_nil hc mn
      subst e
      exact out_val hc (snd_meth0 hc rfl rfl hcl hmt hno F hn hr hb po (meth_of hsu hl hst)) rfl
    | cons e es => exact out_val hc (snd_meth hc rfl rfl hcl hmt hno F hn hr hb po pa (star_of (stars_tl hst).1 _ _) (stars_of (stars_tl hst).2 _ _).1 (meth_of hsu hl hst)) rfl
  · cases m
theorem clm_make (ci : Nat) {as : R} (ia : ClmA T c cx nm N as) : ClmE T c cx nm N (.make ci as) := fun X h tt sc e hs m => by
  unfold mE at m
  split at m
  · simp only [Bool.and_eq_true, decide_eq_true_eq] at m
    obtain ⟨⟨⟨⟨⟨rfl, hg⟩, hf⟩, hst⟩, m⟩, ht⟩ := m
    obtain ⟨k, fa, fd, ps, np, M, F, hn, hr, hm, hb⟩ := h.mkc ci hf
    exact out_ff (snd_make hc rfl rfl M F hn hr (gOk_of hs hg).1 hm hb (ia X h sc _ hs m) (gOk_of hs hg).2 (star_of (stars_tl hst).1 _ _) (stars_of (stars_tl hst).2 _ _).1) ht
  · cases m
theorem clm_maken (ci : Nat) {as : R} (ia : ClmA T c cx nm N as) : ClmE T c cx nm N (.maken ci as) := fun X h tt sc e hs m => by
  unfold mE at m
  split at m
  · simp only [Bool.and_eq_true, decide_eq_true_eq] at m
    obtain ⟨⟨⟨⟨⟨rfl, hg⟩, hf⟩, hst⟩, m⟩, ht⟩ := m
    obtain ⟨k, fa, fd, ps, np, ds, M, F, hn, hr, hm, hd, hb⟩ := h.mkd ci hf
    exact out_ff (snd_maken hc rfl rfl M F hn hr (gOk_of hs hg).1 hm hb hd (ia X h sc _ hs m) (gOk_of hs hg).2 (star_of (stars_tl hst).1 _ _) (stars_of (stars_tl hst).2 _ _).1) ht
  · cases m
theorem clm_fld {o : R} (ci k : Nat) (io : ClmE T c cx nm N o) : ClmE T c cx nm N (.fld o ci k) := fun X h tt sc e hs m => by
  unfold mE at m
  split at m
  · simp only [Bool.and_eq_true, decide_eq_true_eq] at m
    obtain ⟨⟨⟨hf, hi⟩, hsu⟩, m⟩ := m
    exact out_val hc (snd_fld hc (h.cl ci hi) (by rw [h.lay]; exact hf) ((io X h false sc _ hs m).1 rfl) (base_of hsu _)) rfl
  · cases m
end
end DL

/-! DL15b: the matcher is sound (expressions, further). -/
namespace DL
open PySem L2 PySem.Spec PyProof.Rows
section
variable {T : Tbl} {c : Nat → List Vx → Hs → VK2 → Prop} {cx : Cls2} {nm : Nm} {N : List Str} {X : Cx}
variable (hc : CalMono c)
include hc
omit hc in
theorem few_of {es : List Expr} (hst : noStars es = true) (pos : Pos) : ((backTo pos (starEach es X.env)).all (fun x => !x.1) && (backToKw pos (keywordEach [] X.env)).all (fun x => x.1.isSome)
      && decide (es.length + ([] : List Keyword).length + (if ([] : List Keyword).isEmpty then 0 else 1) < 30)) = true := by
  rw [(stars_of hst X.env pos).2]
  unfold noStars at hst
  simp only [Bool.and_eq_true, decide_eq_true_eq] at hst
  show (true && true && decide (es.length + 0 + 0 < 30)) = true
  simp; omega
theorem clm_hm (mm : M) {o as : R} (io : ClmE T c cx nm N o) (ia : ClmA T c cx nm N as) : ClmE T c cx nm N (.hm mm o as) := fun X h tt sc e hs m => by
  unfold mE at m
  split at m
  · rename_i es _
    simp only [Bool.and_eq_true, decide_eq_true_eq] at m
    obtain ⟨⟨⟨⟨⟨⟨rfl, hsu⟩, hl⟩, hst⟩, m1⟩, ht⟩, m⟩ := m
    have po := (io X h false sc _ hs m1).1 rfl
    refine out_ff ?_ ht
    cases es with
    | nil =>
      simp only [Bool.and_eq_true] at m
      have e := as_nil hc m.2
      subst e
      cases mm with
      | pop => exact snd_hm0 hc (fun to p => pe_bm0 PySem.F.plainAttrs_list PySem.F.slot_list_pop PySem.F.type_list_pop mut_pop p (base_of hsu _) hl) po
      | clear => exact snd_hm0 hc (fun to p => pe_bm0 PySem.F.plainAttrs_list PySem.F.slot_list_clear PySem.F.type_list_clear mut_clear p (base_of hsu _) hl) po
      | _ => cases m.1
    | cons e es =>
      simp only [Bool.and_eq_true] at m
      have pa := ia X h sc _ hs m.2
      have s1 := star_of (stars_tl hst).1 es X.env
      cases mm with
      | append => exact snd_hm hc (fun to t p q => pe_bm PySem.F.plainAttrs_list PySem.F.slot_list_append PySem.F.type_list_append mut_append p q (base_of hsu _) (few_of hst _) hl s1 (stars_of (stars_tl hst).2 _ _).1) po pa
      | popAt => exact snd_hm hc (fun to t p q => pe_bm PySem.F.plainAttrs_list PySem.F.slot_list_pop PySem.F.type_list_pop mut_popAt p q (base_of hsu _) (few_of hst _) hl s1 (stars_of (stars_tl hst).2 _ _).1) po pa
      | remove => exact snd_hm hc (fun to t p q => pe_bm PySem.F.plainAttrs_list PySem.F.slot_list_remove PySem.F.type_list_remove mut_remove p q (base_of hsu _) (few_of hst _) hl s1 (stars_of (stars_tl hst).2 _ _).1) po pa
      | insert => exact snd_hm hc (fun to t p q => pe_bm PySem.F.plainAttrs_list PySem.F.slot_list_insert PySem.F.type_list_insert mut_insert p q (base_of hsu _) (few_of hst _) hl s1 (stars_of (stars_tl hst).2 _ _).1) po pa
      | extend => exact snd_hm hc (fun to t p q => pe_bm PySem.F.plainAttrs_list PySem.F.slot_list_extend PySem.F.type_list_extend mut_extend p q (base_of hsu _) (few_of hst _) hl s1 (stars_of (stars_tl hst).2 _ _).1) po pa
      | _ => cases m.1
  · cases m
omit hc in
theorem lc_of {c : Bool} {sc : Scope} {x : Str} (hs : X.env.scope = sc) (hf : c = true → ∀ x, X.fn x = true) (m : lcB c sc x = true) : Loc X.env.scope x ∧ (X.fn x = true ∨ X.env.scope.names.lookup x = some .local) := by
  unfold lcB at m
  rw [Bool.or_eq_true, Bool.and_eq_true] at m
  rcases m with m | ⟨m1, m2⟩
  · have hl := loc_of m
    exact ⟨.inl (by rw [hs]; exact hl), .inr (by rw [hs]; exact hl)⟩
  · refine ⟨.inr ?_, .inl (hf m1 x)⟩
    rw [hs]
    unfold celB at m2
    split at m2
    · assumption
    · cases m2
omit hc in
theorem tgN_of {c : Bool} (hf : c = true → ∀ x, X.fn x = true) (hcalm : X.calm = true) (hN : X.N.Nodup) {sc : Scope} (hs : X.env.scope = sc) : ∀ (is : List Nat) (es : List Expr), tgB.go X.N c sc is es = true → PGs X es (gNames is) ∧ (assignEach es X.env).length = is.length ∧ (assignEach es X.env).findIdx? (·.1) = none
  | [], [], _ => ⟨pgs_nil, rfl, rfl⟩
  | [], e :: es, m => by cases m
  | i :: is, [], m => by cases m
  | i :: is, e :: es, m => by
    unfold tgB.go at m
    split at m
    · rename_i h1 h2; cases h1
    · rename_i i' is' x p es' h1 h2
      cases h1; cases h2
      simp only [Bool.and_eq_true, decide_eq_true_eq] at m
      obtain ⟨h1, h2, h3⟩ := tgN_of hf hcalm hN hs is _ m.2
      have hl := lc_of hs hf m.1.2
      have g : PG X (.Name x p) (gName i) := pg_name hN m.1.1 hl.1 hl.2
      refine ⟨pgs_cons g h1 rfl, ?_, ?_⟩
      · show (((false, assign (.Name x p) X.env) :: assignEach _ X.env) : List (Bool × (Value → Sem Unit))).length = _
        simp [h2]
      · show (((false, assign (.Name x p) X.env) :: assignEach _ X.env) : List (Bool × (Value → Sem Unit))).findIdx? (·.1) = none
        rw [List.findIdx?_cons]
        simp [h3]
    · cases m
omit hc in
theorem tg_of {c : Bool} (hf : c = true → ∀ x, X.fn x = true) (hcalm : X.calm = true) (hN : X.N.Nodup) {sc : Scope} (hs : X.env.scope = sc) {tg : Tg} {e : Expr} (m : tgB X.N c sc tg e = true) : PG X e (tgG X.K tg) := by
  unfold tgB at m
  split at m
  · simp only [Bool.and_eq_true, decide_eq_true_eq] at m
    have hl := lc_of hs hf m.2
    exact pg_name hN m.1 hl.1 hl.2
  · obtain ⟨h1, h2, h3⟩ := tgN_of hf hcalm hN hs _ _ m
    exact pg_tup hcalm h1 h2 h3
  · cases m
omit hc in
theorem ownN_snd (N : List Str) (is : List Nat) : (ownN N is).map (·.2) = is := by
  unfold ownN
  induction is with
  | nil => rfl
  | cons i is ih => simp only [List.map_cons]; rw [ih]
theorem clm_comp (tg : Tg) {elt it tst : R} (ie : ClmE T c cx nm N elt) (ii : ClmI T c cx nm N it) (it' : ClmE T c cx nm N tst) : ClmE T c cx nm N (.comp tg elt it tst) := fun X h tt sc e hs m => by
  unfold mE at m
  split at m
  · rename_i eelt etg eit ifs scope _
    rw [Bool.and_eq_true, Bool.and_eq_true, Bool.and_eq_true, Bool.and_eq_true, Bool.and_eq_true, Bool.and_eq_true] at m
    obtain ⟨⟨⟨⟨⟨⟨ht, mt⟩, mi⟩, mb⟩, mn⟩, me⟩, mf⟩ := m
    have hN := h.hN
    subst hN
    refine out_ff (snd_comp hc h.calm h.nd (ii X h (isTupE etg) sc _ hs mi etg fun z => z) (blkOk_by (by rw [hs]; exact mb)) (ownN_snd _ _) (fun s H C cl fp => ?_) (fun s H C cl fp => ?_) (fun s H C cl fp => ?_) (set_of mn)) ht
    · exact tg_of (X := X.blk s H scope (compEnvC scope cl C X.env) fp) (fun z => by cases z) h.calm h.nd (show relS scope X.env.scope = relS scope sc by rw [hs]) mt
    · split at mf
      · split at mf
        · exact pts_tt hc
        · cases mf
      · exact pts_one ((it' _ (h.blk s H scope (compEnvC scope cl C X.env) fp) true _ _ (show relS scope X.env.scope = relS scope sc by rw [hs]) mf).2 rfl).1
      · cases mf
    · exact (ie _ (h.blk s H scope (compEnvC scope cl C X.env) fp) false _ _ (show relS scope X.env.scope = relS scope sc by rw [hs]) me).1 rfl
  · cases m
theorem clm_nil : ClmA T c cx nm N .nil := fun X h sc es hs m => by
  unfold mA at m
  split at m
  · exact snd_nil hc
  · cases m
theorem clm_cons {a r : R} (ia : ClmE T c cx nm N a) (ir : ClmA T c cx nm N r) : ClmA T c cx nm N (.cons a r) := fun X h sc es hs m => by
  unfold mA at m
  split at m
  · simp only [Bool.and_eq_true] at m
    exact snd_cons hc ((ia X h false sc _ hs m.1.2).1 rfl) (ir X h sc _ hs m.2) (star_of m.1.1 _ _)
  · cases m
theorem clm_consb {a r : R} (ia : ClmE T c cx nm N a) (ir : ClmA T c cx nm N r) : ClmA T c cx nm N (.consb a r) := fun X h sc es hs m => by
  unfold mA at m
  split at m
  · simp only [Bool.and_eq_true] at m
    exact snd_consb hc ((ia X h false sc _ hs m.1.2).1 rfl) (ir X h sc _ hs m.2) (star_of m.1.1 _ _)
  · cases m
theorem clm_itvS (i : Nat) : ClmS T c cx nm N (.itv i) := fun X h sc e hs m => by
  unfold mS at m
  split at m
  · obtain ⟨h1, h2, h3, h4⟩ := vOk_of h hs m
    exact src_v hc h1 h2 h3 h4
  · cases m
theorem clm_iteS {a : R} (ia : ClmE T c cx nm N a) : ClmS T c cx nm N (.ite a) := fun X h sc e hs m => by
  unfold mS at m
  exact src_e hc ((ia X h false sc e hs m).1 rfl)
theorem clm_itvI (i : Nat) : ClmI T c cx nm N (.itv i) := fun X h tp sc e hs m tg ht => by
  unfold mI at m
  split at m
  · obtain ⟨h1, h2, h3, h4⟩ := vOk_of h hs m
    exact walk_src hc (src_v hc h1 h2 h3 h4)
  · cases m
theorem clm_iteI {a : R} (ia : ClmE T c cx nm N a) : ClmI T c cx nm N (.ite a) := fun X h tp sc e hs m tg ht => by
  unfold mI at m
  exact walk_src hc (src_e hc ((ia X h false sc e hs m).1 rfl))
theorem clm_rng {a : R} (ia : ClmE T c cx nm N a) : ClmI T c cx nm N (.rng a) := fun X h tp sc e hs m tg ht => by
  unfold mI at m
  split at m
  · simp only [Bool.and_eq_true, decide_eq_true_eq] at m
    obtain ⟨⟨⟨rfl, hg⟩, hst⟩, m⟩ := m
    exact walk_rng hc (gOk_of hs hg).1 (h.b (by decide +kernel)) (star_of hst [] _) ((ia X h false sc _ hs m).1 rfl)
  · cases m
theorem clm_rng2 {a b : R} (ia : ClmE T c cx nm N a) (ib : ClmE T c cx nm N b) : ClmI T c cx nm N (.rng2 a b) := fun X h tp sc e hs m tg ht => by
  unfold mI at m
  split at m
  · simp only [Bool.and_eq_true, decide_eq_true_eq] at m
    obtain ⟨⟨⟨⟨⟨rfl, hg⟩, s1⟩, s2⟩, m1⟩, m2⟩ := m
    exact walk_rng2 hc (gOk_of hs hg).1 (h.b (by decide +kernel)) (by rw [star_of s1, star_of s2]; rfl) (star_of s2 [] _) ((ia X h false sc _ hs m1).1 rfl) ((ib X h false sc _ hs m2).1 rfl)
  · cases m
theorem clm_enu {a : R} (ia : ClmS T c cx nm N a) : ClmI T c cx nm N (.enu a) := fun X h tp sc e hs m tg ht => by
  unfold mI at m
  split at m
  · simp only [Bool.and_eq_true, decide_eq_true_eq] at m
    obtain ⟨⟨⟨⟨hp, rfl⟩, hg⟩, hst⟩, m⟩ := m
    have ht := ht hp
    unfold isTupE at ht
    split at ht
    · exact walk_enu hc (gOk_of hs hg).1 (h.b (by decide +kernel)) (star_of hst [] _) (ia X h sc _ hs m)
    · cases ht
  · cases m
theorem clm_enuk {a : R} (ia : ClmE T c cx nm N a) : ClmI T c cx nm N (.enuk a) := fun X h tp sc e hs m tg ht => by
  unfold mI at m
  split at m
  · simp only [Bool.and_eq_true, decide_eq_true_eq] at m
    obtain ⟨⟨⟨⟨hp, rfl⟩, hg⟩, hst⟩, m⟩ := m
    have ht := ht hp
    unfold isTupE at ht
    split at ht
    · exact walk_enuk hc (gOk_of hs hg).1 (h.b (by decide +kernel)) (star_of hst [] _) ((ia X h false sc _ hs m).1 rfl)
    · cases ht
  · cases m
theorem clm_zip {a b : R} (ia : ClmS T c cx nm N a) (ib : ClmS T c cx nm N b) : ClmI T c cx nm N (.zip a b) := fun X h tp sc e hs m tg ht => by
  unfold mI at m
  split at m
  · simp only [Bool.and_eq_true, decide_eq_true_eq] at m
    obtain ⟨⟨⟨⟨⟨⟨hp, rfl⟩, hg⟩, s1⟩, s2⟩, m1⟩, m2⟩ := m
    have ht := ht hp
    unfold isTupE at ht
    split at ht
    · exact walk_zip hc (gOk_of hs hg).1 (h.b (by decide +kernel)) (star_of s1 _ _) (by rw [star_of s2]; rfl) (star_of s2 [] _) (ia X h sc _ hs m1) (ib X h sc _ hs m2)
    · cases ht
  · cases m
def ClmP (T : Tbl) (c : Nat → List Vx → Hs → VK2 → Prop) (cx : Cls2) (nm : Nm) (N : List Str) (r : R) : Prop := ∀ X, Okx T c cx nm N X → ∀ sc ks vs, X.env.scope = sc → mPr nm N r sc ks vs = true → (∀ pos, PPs X pos ks vs (prTrs X.K cx T c r)) ∧ isPr r = true ∧ ks.all (·.isSome) = true ∧ ks.length = vs.length
theorem clm_nilP : ClmP T c cx nm N .nil := fun X h sc ks vs hs m => by
  unfold mPr at m
  split at m
  · exact ⟨fun pos => pps_nil, rfl, rfl, rfl⟩
  · cases m
theorem clm_pr {k v r : R} (ik : ClmE T c cx nm N k) (iv : ClmE T c cx nm N v) (ir : ClmP T c cx nm N r) : ClmP T c cx nm N (.pr k v r) := fun X h sc ks vs hs m => by
  unfold mPr at m
  split at m
  · simp only [Bool.and_eq_true] at m
    obtain ⟨h1, h2, h3, h4⟩ := ir X h sc _ _ hs m.2
    exact ⟨fun pos => pps_cons ((ik X h false sc _ hs m.1.1).1 rfl) ((iv X h false sc _ hs m.1.2).1 rfl) (h1 pos), h2, by simpa using h3, by simp [h4]⟩
  · cases m
theorem clm_dctp {ps : R} (ip : ClmP T c cx nm N ps) : ClmE T c cx nm N (.dctp ps) := fun X h tt sc e hs m => by
  unfold mE at m
  split at m
  · simp only [Bool.and_eq_true, decide_eq_true_eq] at m
    obtain ⟨⟨⟨ht, l1⟩, l2⟩, m⟩ := m
    obtain ⟨h1, h2, h3, h4⟩ := ip X h sc _ _ hs m
    exact out_ff (snd_dctp hc h2 (h1 _) h3 h4 (fun e => by rw [e] at l2; simp at l2) l1) ht
  · cases m
theorem clm_get1 {o k : R} (io : ClmE T c cx nm N o) (ik : ClmE T c cx nm N k) : ClmE T c cx nm N (.get1 o k) := fun X h tt sc e hs m => by
  unfold mE at m
  split at m
  · simp only [Bool.and_eq_true, decide_eq_true_eq] at m
    obtain ⟨⟨⟨⟨⟨rfl, hsu⟩, hl⟩, s1⟩, m1⟩, m2⟩ := m
    refine out_val hc (snd_get1 hc (by have := h.un; omega) ((io X h false sc _ hs m1).1 rfl) ((ik X h false sc _ hs m2).1 rfl) ⟨base_of hsu _, few_of (by unfold noStars; simp [s1]) _, hl, ?_⟩) rfl
    rw [star_of s1 [] X.env]
    rfl
  · cases m
theorem clm_dpop {o k : R} (io : ClmE T c cx nm N o) (ik : ClmE T c cx nm N k) : ClmE T c cx nm N (.dpop o k) := fun X h tt sc e hs m => by
  unfold mE at m
  split at m
  · simp only [Bool.and_eq_true, decide_eq_true_eq] at m
    obtain ⟨⟨⟨⟨⟨rfl, hsu⟩, hl⟩, s1⟩, m1⟩, m2⟩ := m
    refine out_val hc (snd_dpop hc ((io X h false sc _ hs m1).1 rfl) ((ik X h false sc _ hs m2).1 rfl) ⟨base_of hsu _, few_of (by unfold noStars; simp [s1]) _, hl, ?_⟩) rfl
    rw [star_of s1 [] X.env]
    rfl
  · cases m
theorem clm_get2 {o k d : R} (io : ClmE T c cx nm N o) (ik : ClmE T c cx nm N k) (id : ClmE T c cx nm N d) : ClmE T c cx nm N (.get2 o k d) := fun X h tt sc e hs m => by
  unfold mE at m
  split at m
  · simp only [Bool.and_eq_true, decide_eq_true_eq] at m
    obtain ⟨⟨⟨⟨⟨⟨⟨rfl, hsu⟩, hl⟩, s1⟩, s2⟩, m1⟩, m2⟩, m3⟩ := m
    refine out_val hc (snd_get2 hc (by have := h.un; omega) ((io X h false sc _ hs m1).1 rfl) ((ik X h false sc _ hs m2).1 rfl) ((id X h false sc _ hs m3).1 rfl) ⟨base_of hsu _, few_of (by unfold noStars; simp [s1, s2]) _, hl, ?_⟩) rfl
    rw [star_of s1 _ X.env, star_of s2 [] X.env]
    rfl
  · cases m
theorem clm_itk {a : R} (ia : ClmE T c cx nm N a) : ClmI T c cx nm N (.itk a) := fun X h tp sc e hs m tg ht => by
  unfold mI at m
  exact walk_itk hc ((ia X h false sc e hs m).1 rfl)
theorem clm_itms {a : R} (ia : ClmE T c cx nm N a) : ClmI T c cx nm N (.itms a) := fun X h tp sc e hs m tg ht => by
  unfold mI at m
  split at m
  · simp only [Bool.and_eq_true, decide_eq_true_eq] at m
    obtain ⟨⟨⟨⟨hp, rfl⟩, hsu⟩, hl⟩, m⟩ := m
    have ht := ht hp
    unfold isTupE at ht
    split at ht
    · exact walk_itms hc ((ia X h false sc _ hs m).1 rfl) (base_of hsu _) hl
    · cases ht
  · cases m
theorem clm_sIt {a : R} (ia : ClmE T c cx nm N a) : ClmE T c cx nm N (.sIt a) := fun X h tt sc e hs m => by
  unfold mE at m
  split at m
  · simp only [Bool.and_eq_true, decide_eq_true_eq] at m
    obtain ⟨⟨⟨⟨⟨⟨ht, rfl⟩, hg⟩, rfl⟩, hsu⟩, hl⟩, m⟩ := m
    exact out_ff (snd_sIt hc h.calm (gOk_of hs hg).1 (h.b (by decide +kernel)) ((ia X h false sc _ hs m).1 rfl) (base_of hsu _) hl) ht
  · cases m
theorem clm_rev {a : R} (ia : ClmE T c cx nm N a) : ClmE T c cx nm N (.rev a) := fun X h tt sc e hs m => by
  unfold mE at m
  split at m
  · simp only [Bool.and_eq_true] at m
    exact out_ff (snd_rev hc ((ia X h false sc _ hs m.2).1 rfl)) m.1
  · cases m
theorem clm_lrg {a : R} (ia : ClmE T c cx nm N a) : ClmE T c cx nm N (.lrg a) := fun X h tt sc e hs m => by
  unfold mE at m
  split at m
  · simp only [Bool.and_eq_true, decide_eq_true_eq] at m
    obtain ⟨⟨⟨⟨⟨⟨ht, rfl⟩, hg⟩, rfl⟩, hg2⟩, hst⟩, m⟩ := m
    exact out_ff (snd_lrg hc h.calm (gOk_of hs hg).1 (h.b (by decide +kernel)) (gOk_of hs hg2).1 (h.b (by decide +kernel)) ((ia X h false sc _ hs m).1 rfl) (star_of hst [] _)) ht
  · cases m
theorem clm_setop (k : Bool) {a : R} (ia : ClmE T c cx nm N a) : ClmE T c cx nm N (.setop k a) := fun X h tt sc e hs m => by
  unfold mE at m
  split at m
  · simp only [Bool.and_eq_true, decide_eq_true_eq] at m
    obtain ⟨⟨⟨⟨⟨⟨ht, rfl⟩, hg⟩, rfl⟩, hg2⟩, hst⟩, m⟩ := m
    refine out_ff (snd_setop hc (fun ta pa => ?_) ((ia X h false sc _ hs m).1 rfl)) ht
    cases k with
    | true => exact pe_sortedSet h.calm (gOk_of hs hg).1 (h.b (by decide +kernel)) (gOk_of hs hg2).1 (h.b (by decide +kernel)) pa (star_of hst [] _)
    | false => exact pe_lenSetT h.calm (gOk_of hs hg).1 (h.b (by decide +kernel)) (gOk_of hs hg2).1 (h.b (by decide +kernel)) pa (star_of hst [] _)
  · cases m
theorem clm_upper {a : R} (ia : ClmE T c cx nm N a) : ClmE T c cx nm N (.upper a) := fun X h tt sc e hs m => by
  unfold mE at m
  split at m
  · simp only [Bool.and_eq_true, decide_eq_true_eq] at m
    obtain ⟨⟨⟨⟨ht, rfl⟩, hsu⟩, hl⟩, m⟩ := m
    exact out_ff (snd_upper hc (base_of hsu _) hl ((ia X h false sc _ hs m).1 rfl)) ht
  · cases m
theorem clm_bm1 (mm : BM) {o a : R} (io : ClmE T c cx nm N o) (ia : ClmE T c cx nm N a) : ClmE T c cx nm N (.bm1 mm o a) := fun X h tt sc e hs m => by
  unfold mE at m
  split at m
  · simp only [Bool.and_eq_true, decide_eq_true_eq] at m
    obtain ⟨⟨⟨⟨⟨⟨ht, rfl⟩, hsu⟩, hl⟩, s1⟩, m1⟩, m2⟩ := m
    have po := (io X h false sc _ hs m1).1 rfl
    have pa := (ia X h false sc _ hs m2).1 rfl
    have hst : ∀ x : Expr, notStar x = true → noStars [x] = true := fun x z => by unfold noStars; simp [z]
    refine out_ff ?_ ht
    cases mm with
    | index => exact snd_index hc (fun to t p q => pe_bm PySem.F.plainAttrs_list PySem.F.slot_list_index PySem.F.type_list_index mt_index p q (base_of hsu _) (few_of (hst _ s1) _) hl (star_of s1 [] _) (stars_of (stars_tl (hst _ s1)).2 _ _).1) (star_of s1 [] _) po pa
    | count => exact snd_count hc (fun to t p q => pe_bm PySem.F.plainAttrs_list PySem.F.slot_list_count PySem.F.type_list_count mt_lcount p q (base_of hsu _) (few_of (hst _ s1) _) hl (star_of s1 [] _) (stars_of (stars_tl (hst _ s1)).2 _ _).1) (star_of s1 [] _) po pa
    | join => exact snd_join hc (star_of s1 [] _) (base_of hsu _) hl po pa
    | split => exact snd_split hc (star_of s1 [] _) (base_of hsu _) hl po pa
  · cases m
theorem clm_lockE {a : R} (ia : ClmE T c cx nm N a) : ClmE T c cx nm N (.lockE a) := fun X h tt sc e hs m => by
  unfold mE at m
  simp only [Bool.and_eq_true] at m
  exact out_ff (snd_lockE hc ((ia X h false sc e hs m.2).1 rfl)) m.1
theorem clm_lockEN {a : R} (ia : ClmE T c cx nm N a) : ClmE T c cx nm N (.lockEN a) := fun X h tt sc e hs m => by
  unfold mE at m
  simp only [Bool.and_eq_true] at m
  exact out_ff (snd_lockEN hc ((ia X h false sc e hs m.2).1 rfl)) m.1
theorem clm_lend (i : Nat) {a : R} (ia : ClmE T c cx nm N a) : ClmE T c cx nm N (.lend i a) := fun X h tt sc e hs m => by
  unfold mE at m
  simp only [Bool.and_eq_true] at m
  exact out_val hc (snd_lend hc ((ia X h false sc e hs m.2).1 rfl)) m.1
theorem clm_dctn : ClmE T c cx nm N .dctn := fun X h tt sc e hs m => by
  unfold mE at m
  split at m
  · exact out_ff (snd_dctn hc h.wd) m
  · cases m
theorem clm_lockV {a : R} (ia : ClmE T c cx nm N a) : ClmE T c cx nm N (.lockV a) := fun X h tt sc e hs m => by
  unfold mE at m
  simp only [Bool.and_eq_true] at m
  exact out_ff (snd_lockV hc ((ia X h false sc e hs m.2).1 rfl)) m.1
theorem clm_dctn1 {k v : R} (ik : ClmE T c cx nm N k) (iv : ClmE T c cx nm N v) : ClmE T c cx nm N (.dctn1 k v) := fun X h tt sc e hs m => by
  unfold mE at m
  split at m
  · simp only [Bool.and_eq_true] at m
    obtain ⟨⟨ht, m1⟩, m2⟩ := m
    exact out_ff (snd_dctn1 hc h.wd (by have := h.un; omega) ((ik X h false sc _ hs m1).1 rfl) ((iv X h false sc _ hs m2).1 rfl)) ht
  · cases m
theorem clm_stp {a k : R} (ia : ClmE T c cx nm N a) (ik : ClmE T c cx nm N k) : ClmE T c cx nm N (.stp a k) := fun X h tt sc e hs m => by
  unfold mE at m
  split at m
  · simp only [Bool.and_eq_true] at m
    obtain ⟨⟨ht, m1⟩, m2⟩ := m
    exact out_ff (snd_stp hc ((ia X h false sc _ hs m1).1 rfl) ((ik X h false sc _ hs m2).1 rfl)) ht
  · cases m
theorem clm_itkn {a : R} (ia : ClmE T c cx nm N a) : ClmI T c cx nm N (.itkn a) := fun X h tp sc e hs m tg ht => by
  unfold mI at m
  exact walk_itkn hc ((ia X h false sc e hs m).1 rfl)
theorem clm (r : R) : ClmE T c cx nm N r ∧ ClmA T c cx nm N r ∧ ClmI T c cx nm N r ∧ ClmS T c cx nm N r ∧ ClmP T c cx nm N r := by
  have noA : ∀ {r : R}, (∀ sc es, mA nm N r sc es = false) → ClmA T c cx nm N r := fun h X _ sc es _ m => by rw [h] at m; cases m
  have noI : ∀ {r : R}, (∀ tp sc es, mI nm N r tp sc es = false) → ClmI T c cx nm N r := fun h X _ tp sc es _ m => by rw [h] at m; cases m
  have noS : ∀ {r : R}, (∀ sc es, mS nm N r sc es = false) → ClmS T c cx nm N r := fun h X _ sc es _ m => by rw [h] at m; cases m
  have noE : ∀ {r : R}, (∀ tt sc es, mE nm N r tt sc es = false) → ClmE T c cx nm N r := fun h X _ tt sc es _ m => by rw [h] at m; cases m
  have noP : ∀ {r : R}, (∀ sc ks vs, mPr nm N r sc ks vs = false) → ClmP T c cx nm N r := fun h X _ sc ks vs _ m => by rw [h] at m; cases m
  induction r with
  | v i => exact ⟨clm_v hc i, noA fun _ _ => rfl, noI fun _ _ _ => rfl, noS fun _ _ => rfl, noP fun _ _ _ => rfl⟩
  | i n => exact ⟨clm_i hc n, noA fun _ _ => rfl, noI fun _ _ _ => rfl, noS fun _ _ => rfl, noP fun _ _ _ => rfl⟩
  | s n => exact ⟨clm_s hc n, noA fun _ _ => rfl, noI fun _ _ _ => rfl, noS fun _ _ => rfl, noP fun _ _ _ => rfl⟩
  | b n => exact ⟨clm_b hc n, noA fun _ _ => rfl, noI fun _ _ _ => rfl, noS fun _ _ => rfl, noP fun _ _ _ => rfl⟩
  | n => exact ⟨clm_n hc, noA fun _ _ => rfl, noI fun _ _ _ => rfl, noS fun _ _ => rfl, noP fun _ _ _ => rfl⟩
  | g k => exact ⟨clm_g hc k, noA fun _ _ => rfl, noI fun _ _ _ => rfl, noS fun _ _ => rfl, noP fun _ _ _ => rfl⟩
  | o1 o a ia => exact ⟨clm_o1 hc o ia.1, noA fun _ _ => rfl, noI fun _ _ _ => rfl, noS fun _ _ => rfl, noP fun _ _ _ => rfl⟩
  | o2 o a b ia ib => exact ⟨clm_o2 hc o ia.1 ib.1, noA fun _ _ => rfl, noI fun _ _ _ => rfl, noS fun _ _ => rfl, noP fun _ _ _ => rfl⟩
  | nil => exact ⟨noE fun _ _ _ => rfl, clm_nil hc, noI fun _ _ _ => rfl, noS fun _ _ => rfl, clm_nilP hc⟩
  | cons a r ia ir => exact ⟨noE fun _ _ _ => rfl, clm_cons hc ia.1 ir.2.1, noI fun _ _ _ => rfl, noS fun _ _ => rfl, noP fun _ _ _ => rfl⟩
  | consb a r ia ir => exact ⟨noE fun _ _ _ => rfl, clm_consb hc ia.1 ir.2.1, noI fun _ _ _ => rfl, noS fun _ _ => rfl, noP fun _ _ _ => rfl⟩
  | tup as ia => exact ⟨clm_tup hc ia.2.1, noA fun _ _ => rfl, noI fun _ _ _ => rfl, noS fun _ _ => rfl, noP fun _ _ _ => rfl⟩
  | lst as ia => exact ⟨clm_lst hc ia.2.1, noA fun _ _ => rfl, noI fun _ _ _ => rfl, noS fun _ _ => rfl, noP fun _ _ _ => rfl⟩
  | dct => exact ⟨clm_dct hc, noA fun _ _ => rfl, noI fun _ _ _ => rfl, noS fun _ _ => rfl, noP fun _ _ _ => rfl⟩
  | dctp ps ip => exact ⟨clm_dctp hc ip.2.2.2.2, noA fun _ _ => rfl, noI fun _ _ _ => rfl, noS fun _ _ => rfl, noP fun _ _ _ => rfl⟩
  | pr k v r ik iv ir => exact ⟨noE fun _ _ _ => rfl, noA fun _ _ => rfl, noI fun _ _ _ => rfl, noS fun _ _ => rfl, clm_pr hc ik.1 iv.1 ir.2.2.2.2⟩
  | get1 o k io ik => exact ⟨clm_get1 hc io.1 ik.1, noA fun _ _ => rfl, noI fun _ _ _ => rfl, noS fun _ _ => rfl, noP fun _ _ _ => rfl⟩
  | dpop o k io ik => exact ⟨clm_dpop hc io.1 ik.1, noA fun _ _ => rfl, noI fun _ _ _ => rfl, noS fun _ _ => rfl, noP fun _ _ _ => rfl⟩
  | get2 o k d io ik id => exact ⟨clm_get2 hc io.1 ik.1 id.1, noA fun _ _ => rfl, noI fun _ _ _ => rfl, noS fun _ _ => rfl, noP fun _ _ _ => rfl⟩
  | and a r ia ir => exact ⟨clm_and hc ia.1 ir.1, noA fun _ _ => rfl, noI fun _ _ _ => rfl, noS fun _ _ => rfl, noP fun _ _ _ => rfl⟩
  | or a r ia ir => exact ⟨clm_or hc ia.1 ir.1, noA fun _ _ => rfl, noI fun _ _ _ => rfl, noS fun _ _ => rfl, noP fun _ _ _ => rfl⟩
  | one a ia => exact ⟨clm_one hc ia.1, noA fun _ _ => rfl, noI fun _ _ _ => rfl, noS fun _ _ => rfl, noP fun _ _ _ => rfl⟩
  | not a ia => exact ⟨clm_not hc ia.1, noA fun _ _ => rfl, noI fun _ _ _ => rfl, noS fun _ _ => rfl, noP fun _ _ _ => rfl⟩
  | ife k a b ik ia ib => exact ⟨clm_ife hc ik.1 ia.1 ib.1, noA fun _ _ => rfl, noI fun _ _ _ => rfl, noS fun _ _ => rfl, noP fun _ _ _ => rfl⟩
  | chain o o' a b k ia ib ik => exact ⟨clm_chain hc o o' ia.1 ib.1 ik.1, noA fun _ _ => rfl, noI fun _ _ _ => rfl, noS fun _ _ => rfl, noP fun _ _ _ => rfl⟩
  | slc a lo hi ia il ih => exact ⟨clm_slc hc ia.1 il.1 ih.1, noA fun _ _ => rfl, noI fun _ _ _ => rfl, noS fun _ _ => rfl, noP fun _ _ _ => rfl⟩
  | call f as ia => exact ⟨clm_call hc f ia.2.1, noA fun _ _ => rfl, noI fun _ _ _ => rfl, noS fun _ _ => rfl, noP fun _ _ _ => rfl⟩
  | meth f o as io ia => exact ⟨clm_meth hc f io.1 ia.2.1, noA fun _ _ => rfl, noI fun _ _ _ => rfl, noS fun _ _ => rfl, noP fun _ _ _ => rfl⟩
  | make ci as ia => exact ⟨clm_make hc ci ia.2.1, noA fun _ _ => rfl, noI fun _ _ _ => rfl, noS fun _ _ => rfl, noP fun _ _ _ => rfl⟩
  | maken ci as ia => exact ⟨clm_maken hc ci ia.2.1, noA fun _ _ => rfl, noI fun _ _ _ => rfl, noS fun _ _ => rfl, noP fun _ _ _ => rfl⟩
  | fld o ci k io => exact ⟨clm_fld hc ci k io.1, noA fun _ _ => rfl, noI fun _ _ _ => rfl, noS fun _ _ => rfl, noP fun _ _ _ => rfl⟩
  | hm m o as io ia => exact ⟨clm_hm hc m io.1 ia.2.1, noA fun _ _ => rfl, noI fun _ _ _ => rfl, noS fun _ _ => rfl, noP fun _ _ _ => rfl⟩
  | comp tg elt it tst ie ii it' => exact ⟨clm_comp hc tg ie.1 ii.2.2.1 it'.1, noA fun _ _ => rfl, noI fun _ _ _ => rfl, noS fun _ _ => rfl, noP fun _ _ _ => rfl⟩
  | itv i => exact ⟨noE fun _ _ _ => rfl, noA fun _ _ => rfl, clm_itvI hc i, clm_itvS hc i, noP fun _ _ _ => rfl⟩
  | ite a ia => exact ⟨noE fun _ _ _ => rfl, noA fun _ _ => rfl, clm_iteI hc ia.1, clm_iteS hc ia.1, noP fun _ _ _ => rfl⟩
  | itk a ia => exact ⟨noE fun _ _ _ => rfl, noA fun _ _ => rfl, clm_itk hc ia.1, noS fun _ _ => rfl, noP fun _ _ _ => rfl⟩
  | itms a ia => exact ⟨noE fun _ _ _ => rfl, noA fun _ _ => rfl, clm_itms hc ia.1, noS fun _ _ => rfl, noP fun _ _ _ => rfl⟩
  | sIt a ia => exact ⟨clm_sIt hc ia.1, noA fun _ _ => rfl, noI fun _ _ _ => rfl, noS fun _ _ => rfl, noP fun _ _ _ => rfl⟩
  | rev a ia => exact ⟨clm_rev hc ia.1, noA fun _ _ => rfl, noI fun _ _ _ => rfl, noS fun _ _ => rfl, noP fun _ _ _ => rfl⟩
  | lrg a ia => exact ⟨clm_lrg hc ia.1, noA fun _ _ => rfl, noI fun _ _ _ => rfl, noS fun _ _ => rfl, noP fun _ _ _ => rfl⟩
  | setop k a ia => exact ⟨clm_setop hc k ia.1, noA fun _ _ => rfl, noI fun _ _ _ => rfl, noS fun _ _ => rfl, noP fun _ _ _ => rfl⟩
  | upper a ia => exact ⟨clm_upper hc ia.1, noA fun _ _ => rfl, noI fun _ _ _ => rfl, noS fun _ _ => rfl, noP fun _ _ _ => rfl⟩
  | bm1 m o a io ia => exact ⟨clm_bm1 hc m io.1 ia.1, noA fun _ _ => rfl, noI fun _ _ _ => rfl, noS fun _ _ => rfl, noP fun _ _ _ => rfl⟩
  | lockE a ia => exact ⟨clm_lockE hc ia.1, noA fun _ _ => rfl, noI fun _ _ _ => rfl, noS fun _ _ => rfl, noP fun _ _ _ => rfl⟩
  | lockEN a ia => exact ⟨clm_lockEN hc ia.1, noA fun _ _ => rfl, noI fun _ _ _ => rfl, noS fun _ _ => rfl, noP fun _ _ _ => rfl⟩
  | lend i a ia => exact ⟨clm_lend hc i ia.1, noA fun _ _ => rfl, noI fun _ _ _ => rfl, noS fun _ _ => rfl, noP fun _ _ _ => rfl⟩
  | dctn1 k v ik iv => exact ⟨clm_dctn1 hc ik.1 iv.1, noA fun _ _ => rfl, noI fun _ _ _ => rfl, noS fun _ _ => rfl, noP fun _ _ _ => rfl⟩
  | lockV a ia => exact ⟨clm_lockV hc ia.1, noA fun _ _ => rfl, noI fun _ _ _ => rfl, noS fun _ _ => rfl, noP fun _ _ _ => rfl⟩
  | dctn => exact ⟨clm_dctn hc, noA fun _ _ => rfl, noI fun _ _ _ => rfl, noS fun _ _ => rfl, noP fun _ _ _ => rfl⟩
  | stp a k ia ik => exact ⟨clm_stp hc ia.1 ik.1, noA fun _ _ => rfl, noI fun _ _ _ => rfl, noS fun _ _ => rfl, noP fun _ _ _ => rfl⟩
  | enuk a ia => exact ⟨noE fun _ _ _ => rfl, noA fun _ _ => rfl, clm_enuk hc ia.1, noS fun _ _ => rfl, noP fun _ _ _ => rfl⟩
  | itkn a ia => exact ⟨noE fun _ _ _ => rfl, noA fun _ _ => rfl, clm_itkn hc ia.1, noS fun _ _ => rfl, noP fun _ _ _ => rfl⟩
  | rng a ia => exact ⟨noE fun _ _ _ => rfl, noA fun _ _ => rfl, clm_rng hc ia.1, noS fun _ _ => rfl, noP fun _ _ _ => rfl⟩
  | rng2 a b ia ib => exact ⟨noE fun _ _ _ => rfl, noA fun _ _ => rfl, clm_rng2 hc ia.1 ib.1, noS fun _ _ => rfl, noP fun _ _ _ => rfl⟩
  | enu a ia => exact ⟨noE fun _ _ _ => rfl, noA fun _ _ => rfl, clm_enu hc ia.2.2.2.1, noS fun _ _ => rfl, noP fun _ _ _ => rfl⟩
  | zip a b ia ib => exact ⟨noE fun _ _ _ => rfl, noA fun _ _ => rfl, clm_zip hc ia.2.2.2.1 ib.2.2.2.1, noS fun _ _ => rfl, noP fun _ _ _ => rfl⟩
  | _ => exact ⟨noE fun _ _ _ => rfl, noA fun _ _ => rfl, noI fun _ _ _ => rfl, noS fun _ _ => rfl, noP fun _ _ _ => rfl⟩
end
end DL

/-! DL16: the matcher of statements, sound. -/
namespace DL
open PySem L2 PySem.Spec PyProof.Rows
def oneSt : Stmt ⊕ List Stmt → Option Stmt
  | .inl s => some s
  | .inr [s] => some s
  | _ => none
def noComp : Expr → Bool
  | .ListComp _ _ _ _ => false
  | .SetComp _ _ _ _ => false
  | .DictComp _ _ _ _ _ => false
  | _ => true
/-- a comprehension stored in a name at once -/
def cmpSet (sc : Scope) (y : Str) (py : Pos) : Expr → Bool
  | .ListComp _ _ s pos => (py.line == pos.line) && !(s.names.any fun (n, k) => n == y && (k == .local || k == .cell))
  | _ => false
def isCmpR : R → Bool
  | .comp _ _ _ _ => true
  | _ => false
section
variable (nm : Nm) (N : List Str)
def mB : R → Scope → (Stmt ⊕ List Stmt) → Bool
  | .seq a r, sc, ob => match ob with
    | .inr sts => match a with
      | .box _ => mB r sc (.inr sts)
      | _ => match sts with
        | st :: rest => mB a sc (.inl st) && mB r sc (.inr rest)
        | [] => false
    | _ => false
  | .skip, sc, ob => match ob with
    | .inr [] => true
    | .inl (.Pass _) => true
    | .inr [.Pass _] => true
    | _ => false
  | .expr e, sc, ob => match oneSt ob with
    | some (.Expr ee _) => noComp ee && mE nm N e false sc ee
    | _ => false
  | .set i e, sc, ob => match oneSt ob with
    | some (.Assign [.Name x py] ee _) => decide (N[i]? = some x) && lcB true sc x && mE nm N e false sc ee && ((noComp ee || celB sc x) || (locB sc x && cmpSet sc x py ee && (match sc.kind with | .function => true | _ => false) && isCmpR e))
    | _ => false
  | .setT is e, sc, ob => match oneSt ob with
    | some (.Assign [.Tuple es k p] ee _) => !(isTupE ee) && tgB.go N true sc is es && mE nm N e false sc ee
    | _ => false
  | .seti o k e, sc, ob => match oneSt ob with
    | some (.Assign [.Subscript eo ek _] ee _) => plainI ek && mE nm N o false sc eo && mE nm N k false sc ek && mE nm N e false sc ee
    | _ => false
  | .slcset o e, sc, ob => match oneSt ob with
    | some (.Assign [.Subscript eo (.Slice none none none _) _] ee _) => mE nm N o false sc eo && mE nm N e false sc ee
    | _ => false
  | .oseti i k e, sc, ob => match oneSt ob with
    | some (.Assign [.Subscript (.Name x _) ek _] ee _) => plainI ek && vOk N sc i x && mE nm N k false sc ek && mE nm N e false sc ee
    | _ => false
  | .fset o ci k e, sc, ob => match oneSt ob with
    | some (.Assign [.Attribute eo f _] ee _) => decide ((nm.lay ci)[k]? = some f) && nm.isL ci && mE nm N o false sc eo && mE nm N e false sc ee
    | _ => false
  | .setNAN i o ci k j e, sc, ob => match oneSt ob with
    | some (.Assign [.Tuple [.Name x _, .Attribute eo f _, .Name y _] _ _] ee _) => !(isTupE ee) && (decide (N[i]? = some x) && lcB true sc x) && (decide (N[j]? = some y) && lcB true sc y) && decide ((nm.lay ci)[k]? = some f) && nm.isL ci && mE nm N o false sc eo && mE nm N e false sc ee
    | _ => false
  | .faug o ci k e, sc, ob => match oneSt ob with
    | some (.AugAssign (.Attribute eo f _) .Add ee _) => decide ((nm.lay ci)[k]? = some f) && nm.isL ci && mE nm N o false sc eo && mE nm N e false sc ee
    | _ => false
  | .iff k a r, sc, ob => match oneSt ob with
    | some (.If ek ea er _) => mE nm N k true sc ek && mB a sc (.inr ea) && mB r sc (.inr er)
    | _ => false
  | .whl k a, sc, ob => match oneSt ob with
    | some (.While ek ea [] _) => mE nm N k true sc ek && mB a sc (.inr ea)
    | _ => false
  | .for tg it a, sc, ob => match oneSt ob with
    | some (.For etg eit ea [] _) => tgB N true sc tg etg && mI nm N it (isTupE etg) sc eit && noSet eit && mB a sc (.inr ea)
    | _ => false
  | .ret e, sc, ob => match oneSt ob with
    | some (.Return (some ee) _) => mE nm N e false sc ee
    | _ => false
  | .retn, sc, ob => match oneSt ob with
    | some (.Return none _) => true
    | _ => false
  | .retv i, sc, ob => match oneSt ob with
    | some (.Return (some (.Name x _)) _) => vOk N sc i x
    | _ => false
  | .brk, sc, ob => match oneSt ob with
    | some (.Break _) => true
    | _ => false
  | .cnt, sc, ob => match oneSt ob with
    | some (.Continue _) => true
    | _ => false
  | .never, sc, ob => true
  | .lock st, sc, ob => match oneSt ob with
    | some s => mB st sc (.inl s)
    | _ => false
  | .lockN st, sc, ob => match oneSt ob with
    | some s => mB st sc (.inl s)
    | _ => false
  | .tryp st, sc, ob => match oneSt ob with
    | some (.Try body (_ :: _) [] [] _) => mB st sc (.inr body)
    | _ => false
  | .om m i as dst, sc, ob => match oneSt ob with
    | some (.Expr (.Call (.Attribute (.Name x _) f apos) es [] pos) _) => (match dst with | none => true | _ => false) && vOk N sc i x && decide (f = mN m) && atL apos pos && noStars es && (match es with
      | [] => mA0 m && (match as with | .nil => true | _ => false)
      | _ => mA1 m && mA nm N as sc es)
    | some (.Assign [.Name y _] (.Call (.Attribute (.Name x _) f apos) es [] pos) _) => (match dst with | some j => decide (N[j]? = some y) && lcB true sc y | _ => false) && vOk N sc i x && decide (f = mN m) && atL apos pos && noStars es && (match es with
      | [] => mA0 m && (match as with | .nil => true | _ => false)
      | _ => mA1 m && mA nm N as sc es)
    | _ => false
  | _, _, _ => false
end

section
variable {T : Tbl} {c : Nat → List Vx → Hs → VK2 → Prop} {cx : Cls2} {nm : Nm} {N : List Str} {X : Cx}
def OutB (T : Tbl) (c : Nat → List Vx → Hs → VK2 → Prop) (cx : Cls2) (X : Cx) (r : R) (ob : Stmt ⊕ List Stmt) : Prop :=
  (∀ st, ob = .inl st → PS X st (liftS X.K cx (wpS T c r))) ∧ (∀ sts, ob = .inr sts → PSs X sts (liftS X.K cx (wpS T c r)))
structure HpX (X : Cx) : Prop where
  po : PassesOwn (model X.prog X.w) X.A X.env X.xe
  fn : ∀ x, X.fn x = true
def ClmB (T : Tbl) (c : Nat → List Vx → Hs → VK2 → Prop) (cx : Cls2) (nm : Nm) (N : List Str) (r : R) : Prop := ∀ X, Okx T c cx nm N X → HpX X → ∀ sc ob, X.env.scope = sc → mB nm N r sc ob = true → OutB T c cx X r ob
theorem out_one {r : R} {ob : Stmt ⊕ List Stmt} {st : Stmt} (e : oneSt ob = some st) (h : PS X st (liftS X.K cx (wpS T c r))) : OutB T c cx X r ob := by
  unfold oneSt at e
  split at e
  · cases e
    exact ⟨fun st z => (by cases z; exact h), fun sts z => (by cases z)⟩
  · cases e
    exact ⟨fun st z => (by cases z), fun sts z => (by cases z; exact pss_one h)⟩
  · cases e
theorem sw_no {e : Expr} (h : noComp e = true) (t : Option Expr) (l : Nat) (env : Env) : swapsWith e t l env = pure false := by
  cases e <;> first | rfl | cases h
theorem sw_tup (e : Expr) (es : List Expr) (k : Nat) (p : Pos) (l : Nat) (env : Env) : swapsWithSole [.Tuple es k p] e l env = pure false := by
  cases e <;> rfl
theorem sw_cel {e : Expr} {x : Str} {py : Pos} {l : Nat} {env : Env} (h : celB env.scope x = true) : swapsWith e (some (.Name x py)) l env = pure false := by
  have k : (env.kindOf x == some .local) = false := by
    unfold celB at h
    unfold Env.kindOf
    split at h
    · rename_i q; rw [q]; rfl
    · cases h
  cases e <;> first | rfl | (show (pure (env.blockKind == .function && env.kindOf x == some .local && _ && _) : Sem Bool) = pure false; rw [k]; simp)
theorem sw_attr (e : Expr) (o : Expr) (f : Str) (p : Pos) (l : Nat) (env : Env) : swapsWith e (some (.Attribute o f p)) l env = pure false := by
  cases e <;> rfl
theorem asg_sub {o i : Expr} {pos : Pos} (h : plainI i = true) : ∀ v, assign (.Subscript o i pos) X.env v = (do
      let ov ← holding [v] (eval o X.env)
      let iv ← holding [v, ov] (eval i X.env)
      standAt pos
      holding [v, ov, iv] (setItem ov iv v)
      release [v, ov, iv] []) := by
  intro v
  cases i <;> first | rfl | cases h
theorem sw_sub (e o i : Expr) (p : Pos) (l : Nat) (env : Env) : swapsWithSole [.Subscript o i p] e l env = pure false := by
  cases e <;> rfl
theorem sw_sole {e t : Expr} (h : noComp e = true) (l : Nat) (env : Env) : swapsWithSole [t] e l env = pure false := by
  unfold swapsWithSole
  exact sw_no h _ _ _
variable (hc : CalMono c)
include hc
theorem cb_seq {a r : R} (ia : ClmB T c cx nm N a) (ir : ClmB T c cx nm N r) : ClmB T c cx nm N (.seq a r) := fun X h hp sc ob hs m => by
  unfold mB at m
  split at m
  · rename_i sts
    refine ⟨fun st z => (by cases z), fun sts' z => ?_⟩
    cases z
    split at m
    · exact pssImp ((ir X h hp sc _ hs m).2 _ rfl) fun D σ H w => st_box hc w
    · split at m
      · simp only [Bool.and_eq_true] at m
        exact st_seq hc ((ia X h hp sc _ hs m.1).1 _ rfl) ((ir X h hp sc _ hs m.2).2 _ rfl)
      · cases m
  · cases m
theorem cb_skip : ClmB T c cx nm N .skip := fun X h hp sc ob hs m => by
  unfold mB at m
  split at m
  · exact ⟨fun st z => (by cases z), fun sts z => by cases z; exact st_skip hc⟩
  · exact ⟨fun st z => (by cases z; exact st_pass hc), fun sts z => by cases z⟩
  · exact ⟨fun st z => (by cases z), fun sts z => by cases z; exact pss_one (st_pass hc)⟩
  · cases m
theorem cb_expr {e : R} : ClmB T c cx nm N (.expr e) := fun X h hp sc ob hs m => by
  unfold mB at m
  split at m
  · rename_i e1
    simp only [Bool.and_eq_true] at m
    exact out_one e1 (st_expr hc (((clm hc e).1 X h false sc _ hs m.2).1 rfl) (sw_no m.1 _ _ _))
  · cases m
theorem kind_of {sc : Scope} (m : (match sc.kind with | .function => true | _ => false) = true) : sc.kind = .function := by
  split at m
  · assumption
  · cases m
theorem cb_set {i : Nat} {e : R} : ClmB T c cx nm N (.set i e) := fun X h hp sc ob hs m => by
  unfold mB at m
  split at m
  · rename_i x py ee pos e1
    simp only [Bool.and_eq_true, Bool.or_eq_true, decide_eq_true_eq] at m
    obtain ⟨⟨⟨m1, m2⟩, m3⟩, m4⟩ := m
    have hl := lc_of hs (fun _ => hp.fn) m2
    have hN := h.hN
    subst hN
    refine out_one e1 ?_
    rcases m4 with (m4 | m4) | ⟨⟨⟨m0, m4⟩, m5⟩, m6⟩
    · exact st_set hc (ps_set h.nd m1 hl.1 (((clm hc e).1 X h false sc _ hs m3).1 rfl) (sw_no m4 _ _ _) hl.2) fun _ _ _ z => z
    · exact st_set hc (ps_set h.nd m1 hl.1 (((clm hc e).1 X h false sc _ hs m3).1 rfl) (sw_cel (by rw [hs]; exact m4)) hl.2) fun _ _ _ z => z
    · have hl' : X.env.scope.names.lookup x = some .local := by rw [hs]; exact loc_of m0
      unfold cmpSet at m4
      split at m4
      · rename_i eelt gens scope cpos
        simp only [Bool.and_eq_true, Bool.not_eq_true'] at m4
        cases e with
        | comp tg elt it tst =>
          unfold mE at m3
          split at m3
          · rename_i eelt' etg eit ifs scope' _ e2
            cases e2
            rw [Bool.and_eq_true, Bool.and_eq_true, Bool.and_eq_true, Bool.and_eq_true, Bool.and_eq_true, Bool.and_eq_true] at m3
            obtain ⟨⟨⟨⟨⟨⟨ht, mt⟩, mi⟩, mb⟩, mn⟩, me⟩, mf⟩ := m3
            refine st_set hc (ps_setLc h.calm h.nd m1 hl' (sw_true (by rw [hs]; exact kind_of hc m5) hl' m4.1 m4.2) ((clm hc it).2.2.1 X h (isTupE etg) sc _ hs mi etg fun z => z) (blkOk_by (own := ownN X.N tg.is) (by rw [hs]; exact mb)) (g := tgG X.K tg) (tt := liftT X.K cx (wpE T c tst)) (te := liftE X.K cx (wpE T c elt))
              (fun s H C cl fp => ?_) (fun s H C cl fp => ?_) (fun s H C cl fp => ?_) (set_of mn)) fun σ H Q w => lc_ok hc (ownN_snd _ _) (fun _ _ _ h => h) (fun _ _ _ h => h) (fun _ _ _ h => h) w
            · exact tg_of (X := X.blk s H scope (compEnvC scope cl C X.env) fp) (fun z => by cases z) h.calm h.nd (show relS scope X.env.scope = relS scope sc by rw [hs]) mt
            · split at mf
              · split at mf
                · exact pts_tt hc
                · cases mf
              · exact pts_one (((clm hc tst).1 _ (h.blk s H scope (compEnvC scope cl C X.env) fp) true _ _ (show relS scope X.env.scope = relS scope sc by rw [hs]) mf).2 rfl).1
              · cases mf
            · exact ((clm hc elt).1 _ (h.blk s H scope (compEnvC scope cl C X.env) fp) false _ _ (show relS scope X.env.scope = relS scope sc by rw [hs]) me).1 rfl
          · cases m3
        | _ => cases m6
      · cases m4
  · cases m
theorem cb_setT {is : List Nat} {e : R} : ClmB T c cx nm N (.setT is e) := fun X h hp sc ob hs m => by
  unfold mB at m
  split at m
  · rename_i es k p ee pos e1
    simp only [Bool.and_eq_true, Bool.not_eq_true'] at m
    obtain ⟨⟨m2, m3⟩, m4⟩ := m
    have hN := h.hN
    subst hN
    obtain ⟨h1, h2, h3⟩ := tgN_of (fun _ => hp.fn) h.calm h.nd hs _ _ m3
    have hw : swappedStores [.Tuple es k p] ee X.env = pure none := by
      cases ee <;> first | rfl | cases m2
    exact out_one e1 (st_setT hc (ps_asg (((clm hc e).1 X h false sc _ hs m4).1 rfl) (pg_seq h.calm h1 h2 h3) (sw_tup _ _ _ _ _ _) hw rfl))
  · cases m
theorem cb_setNAN {i j ci k : Nat} {o e : R} : ClmB T c cx nm N (.setNAN i o ci k j e) := fun X h hp sc ob hs m => by
  unfold mB at m
  split at m
  · rename_i x px eo f pa y py kt pt ee pos e1
    simp only [Bool.and_eq_true, Bool.not_eq_true', decide_eq_true_eq] at m
    obtain ⟨⟨⟨⟨⟨⟨m1, mx1, mx2⟩, my1, my2⟩, m4⟩, m5⟩, m6⟩, m7⟩ := m
    have hN := h.hN
    subst hN
    have lx := lc_of hs (fun _ => hp.fn) mx2
    have ly := lc_of hs (fun _ => hp.fn) my2
    have hw : ∀ es, swappedStores [.Tuple es kt pt] ee X.env = pure none := fun es => by
      cases ee <;> first | rfl | cases m1
    exact out_one e1 (st_setNAN hc h.calm (h.cl ci m5) (by rw [h.lay]; exact m4) (pg_name h.nd mx1 lx.1 lx.2) (pg_name h.nd my1 ly.1 ly.2) (((clm hc o).1 X h false sc _ hs m6).1 rfl) (((clm hc e).1 X h false sc _ hs m7).1 rfl) (sw_tup _ _ _ _ _ _) (hw _))
  · cases m
theorem cb_seti {o k e : R} : ClmB T c cx nm N (.seti o k e) := fun X h hp sc ob hs m => by
  unfold mB at m
  split at m
  · rename_i eo ek p ee pos e1
    simp only [Bool.and_eq_true] at m
    obtain ⟨⟨⟨m2, m3⟩, m4⟩, m5⟩ := m
    exact out_one e1 (st_seti hc (ps_asg (((clm hc e).1 X h false sc _ hs m5).1 rfl) (pg_sub (((clm hc o).1 X h false sc _ hs m3).1 rfl) (((clm hc k).1 X h false sc _ hs m4).1 rfl) (pset_ok h.un h.wd) (asg_sub m2)) (sw_sub _ _ _ _ _ _) rfl rfl))
  · cases m
theorem cb_slcset {o e : R} : ClmB T c cx nm N (.slcset o e) := fun X h hp sc ob hs m => by
  unfold mB at m
  split at m
  · rename_i eo p0 p ee pos e1
    simp only [Bool.and_eq_true] at m
    obtain ⟨m2, m3⟩ := m
    exact out_one e1 (st_slcset hc (ps_asg (((clm hc e).1 X h false sc _ hs m3).1 rfl) (pg_slA (((clm hc o).1 X h false sc _ hs m2).1 rfl)) (sw_sub _ _ _ _ _ _) rfl rfl))
  · cases m
theorem cb_oseti {i : Nat} {k e : R} : ClmB T c cx nm N (.oseti i k e) := fun X h hp sc ob hs m => by
  unfold mB at m
  split at m
  · rename_i x px ek p ee pos e1
    simp only [Bool.and_eq_true] at m
    obtain ⟨⟨⟨m2, m3⟩, m4⟩, m5⟩ := m
    obtain ⟨h1, h2, h3, h4⟩ := vOk_of h hs m3
    exact out_one e1 (st_oseti hc (ps_asg (((clm hc e).1 X h false sc _ hs m5).1 rfl) (pg_sub (pe_var h1 h2 h3 h4) (((clm hc k).1 X h false sc _ hs m4).1 rfl) (pset_ok h.un h.wd) (asg_sub m2)) (sw_sub _ _ _ _ _ _) rfl rfl))
  · cases m
theorem cb_fset {o e : R} {ci k : Nat} : ClmB T c cx nm N (.fset o ci k e) := fun X h hp sc ob hs m => by
  unfold mB at m
  split at m
  · rename_i eo f p ee pos e1
    simp only [Bool.and_eq_true, decide_eq_true_eq] at m
    obtain ⟨⟨⟨m1, m2⟩, m3⟩, m4⟩ := m
    exact out_one e1 (st_fset hc (h.cl ci m2) (by rw [h.lay]; exact m1) (((clm hc o).1 X h false sc _ hs m3).1 rfl) (((clm hc e).1 X h false sc _ hs m4).1 rfl) (sw_attr _ _ _ _ _ _))
  · cases m
theorem cb_faug {o e : R} {ci k : Nat} : ClmB T c cx nm N (.faug o ci k e) := fun X h hp sc ob hs m => by
  unfold mB at m
  split at m
  · rename_i eo f p ee pos e1
    simp only [Bool.and_eq_true, decide_eq_true_eq] at m
    obtain ⟨⟨⟨m1, m2⟩, m3⟩, m4⟩ := m
    exact out_one e1 (st_faug hc (h.cl ci m2) (by rw [h.lay]; exact m1) (((clm hc o).1 X h false sc _ hs m3).1 rfl) (((clm hc e).1 X h false sc _ hs m4).1 rfl))
  · cases m
theorem cb_iff {k a r : R} (ia : ClmB T c cx nm N a) (ir : ClmB T c cx nm N r) : ClmB T c cx nm N (.iff k a r) := fun X h hp sc ob hs m => by
  unfold mB at m
  split at m
  · rename_i ek ea er pos e1
    simp only [Bool.and_eq_true] at m
    exact out_one e1 (st_iff hc (((clm hc k).1 X h true sc _ hs m.1.1).2 rfl).1 ((ia X h hp sc _ hs m.1.2).2 _ rfl) ((ir X h hp sc _ hs m.2).2 _ rfl))
  · cases m
theorem cb_whl {k a : R} (ia : ClmB T c cx nm N a) : ClmB T c cx nm N (.whl k a) := fun X h hp sc ob hs m => by
  unfold mB at m
  split at m
  · rename_i ek ea pos e1
    simp only [Bool.and_eq_true] at m
    exact out_one e1 (st_whl hc hp.po (((clm hc k).1 X h true sc _ hs m.1).2 rfl).1 ((ia X h hp sc _ hs m.2).2 _ rfl))
  · cases m
theorem cb_for {tg : Tg} {it a : R} (ia : ClmB T c cx nm N a) : ClmB T c cx nm N (.for tg it a) := fun X h hp sc ob hs m => by
  unfold mB at m
  split at m
  · rename_i etg eit ea pos e1
    simp only [Bool.and_eq_true] at m
    obtain ⟨⟨⟨m1, m2⟩, m3⟩, m4⟩ := m
    have hN := h.hN
    subst hN
    exact out_one e1 (st_for hc hp.po h.calm ((clm hc it).2.2.1 X h (isTupE etg) sc _ hs m2 etg fun z => z) (tg_of (fun _ => hp.fn) h.calm h.nd hs m1) ((ia X h hp sc _ hs m4).2 _ rfl) (set_of m3))
  · cases m
theorem cb_ret {e : R} : ClmB T c cx nm N (.ret e) := fun X h hp sc ob hs m => by
  unfold mB at m
  split at m
  · rename_i ee pos e1
    exact out_one e1 (st_ret hc (((clm hc e).1 X h false sc _ hs m).1 rfl))
  · cases m
theorem cb_retn : ClmB T c cx nm N .retn := fun X h hp sc ob hs m => by
  unfold mB at m
  split at m
  · rename_i pos e1
    exact out_one e1 (st_retn hc)
  · cases m
theorem cb_retv {i : Nat} : ClmB T c cx nm N (.retv i) := fun X h hp sc ob hs m => by
  unfold mB at m
  split at m
  · rename_i x p pos e1
    obtain ⟨h1, h2, h3, h4⟩ := vOk_of h hs m
    exact out_one e1 (st_retv hc h1 h2 h3 h4)
  · cases m
theorem cb_brk : ClmB T c cx nm N .brk := fun X h hp sc ob hs m => by
  unfold mB at m
  split at m
  · rename_i pos e1
    exact out_one e1 (st_brk hc)
  · cases m
theorem cb_cnt : ClmB T c cx nm N .cnt := fun X h hp sc ob hs m => by
  unfold mB at m
  split at m
  · rename_i pos e1
    exact out_one e1 (st_cnt hc)
  · cases m
theorem cb_never : ClmB T c cx nm N .never := fun X h hp sc ob hs m => ⟨fun st z => st_never hc, fun sts z => st_nevers hc⟩
theorem om_pe {mm : M} {i : Nat} {as : R} (h : Okx T c cx nm N X) {sc : Scope} (hs : X.env.scope = sc) {x f : Str} {es : List Expr} {p apos pos : Pos} (mv : vOk N sc i x = true) (hf : f = mN mm) (hl : atL apos pos = true) (m : (match es with
      | [] => mA0 mm && (match as with | .nil => true | _ => false)
      | _ => mA1 mm && mA nm N as sc es) = true) (hst : noStars es = true) : ∃ te : TE, PE X (.Call (.Attribute (.Name x p) f apos) es [] pos) te ∧ ∀ σ H Q, tBM X.K "list" (mOf X.K cx mm) (tVar i) (liftA X.K cx (wpE T c as)) σ H Q → te σ H Q := by
  obtain ⟨h1, h2, h3, h4⟩ := vOk_of h hs mv
  have po : PE X (.Name x p) (tVar i) := pe_var h1 h2 h3 h4
  have hsu : noSup (.Name x p) = true := rfl
  subst hf
  cases es with
  | nil =>
    simp only [Bool.and_eq_true] at m
    have e := as_nil hc m.2
    subst e
    have key : ∀ σ H Q, tBM X.K "list" (mOf X.K cx mm) (tVar i) (liftA X.K cx (wpE T c .nil)) σ H Q → tBM0 X.K "list" (mOf X.K cx mm) (tVar i) σ H Q := fun σ H Q ⟨v, e, ty, w⟩ => by
      obtain ⟨S, σ2, hr, rs, w⟩ := w
      exact ⟨v, e, ty, w [] H hr .refl .nil⟩
    cases mm with
    | pop => exact ⟨_, pe_bm0 PySem.F.plainAttrs_list PySem.F.slot_list_pop PySem.F.type_list_pop mut_pop po (base_of hsu _) hl, key⟩
    | clear => exact ⟨_, pe_bm0 PySem.F.plainAttrs_list PySem.F.slot_list_clear PySem.F.type_list_clear mut_clear po (base_of hsu _) hl, key⟩
    | _ => cases m.1
  | cons e es =>
    simp only [Bool.and_eq_true] at m
    have pa := (clm hc as).2.1 X h sc _ hs m.2
    have s1 := star_of (stars_tl hst).1 es X.env
    cases mm with
    | append => exact ⟨_, pe_bm PySem.F.plainAttrs_list PySem.F.slot_list_append PySem.F.type_list_append mut_append po pa (base_of hsu _) (few_of hst _) hl s1 (stars_of (stars_tl hst).2 _ _).1, fun _ _ _ z => z⟩
    | popAt => exact ⟨_, pe_bm PySem.F.plainAttrs_list PySem.F.slot_list_pop PySem.F.type_list_pop mut_popAt po pa (base_of hsu _) (few_of hst _) hl s1 (stars_of (stars_tl hst).2 _ _).1, fun _ _ _ z => z⟩
    | remove => exact ⟨_, pe_bm PySem.F.plainAttrs_list PySem.F.slot_list_remove PySem.F.type_list_remove mut_remove po pa (base_of hsu _) (few_of hst _) hl s1 (stars_of (stars_tl hst).2 _ _).1, fun _ _ _ z => z⟩
    | insert => exact ⟨_, pe_bm PySem.F.plainAttrs_list PySem.F.slot_list_insert PySem.F.type_list_insert mut_insert po pa (base_of hsu _) (few_of hst _) hl s1 (stars_of (stars_tl hst).2 _ _).1, fun _ _ _ z => z⟩
    | extend => exact ⟨_, pe_bm PySem.F.plainAttrs_list PySem.F.slot_list_extend PySem.F.type_list_extend mut_extend po pa (base_of hsu _) (few_of hst _) hl s1 (stars_of (stars_tl hst).2 _ _).1, fun _ _ _ z => z⟩
    | _ => cases m.1
theorem cb_om {mm : M} {i : Nat} {as : R} {dst : Option Nat} : ClmB T c cx nm N (.om mm i as dst) := fun X h hp sc ob hs m => by
  unfold mB at m
  split at m
  · rename_i x p f apos es pos spos e1
    rw [Bool.and_eq_true, Bool.and_eq_true, Bool.and_eq_true, Bool.and_eq_true, Bool.and_eq_true] at m
    obtain ⟨⟨⟨⟨⟨m1, m2⟩, m3⟩, m4⟩, m5⟩, m6⟩ := m
    obtain ⟨te, q, w⟩ := om_pe hc (mm := mm) (as := as) (p := p) h hs m2 (of_decide_eq_true m3) m4 m6 m5
    cases dst with
    | none => exact out_one e1 (st_om (es := []) hc w none (ps_expr q (sw_no rfl _ _ _)))
    | some j => cases m1
  · rename_i y py x p f apos es pos spos e1
    rw [Bool.and_eq_true, Bool.and_eq_true, Bool.and_eq_true, Bool.and_eq_true, Bool.and_eq_true] at m
    obtain ⟨⟨⟨⟨⟨m1, m2⟩, m3⟩, m4⟩, m5⟩, m6⟩ := m
    obtain ⟨te, q, w⟩ := om_pe hc (mm := mm) (as := as) (p := p) h hs m2 (of_decide_eq_true m3) m4 m6 m5
    cases dst with
    | none => cases m1
    | some j =>
      simp only [Bool.and_eq_true, decide_eq_true_eq] at m1
      have hl := lc_of hs (fun _ => hp.fn) m1.2
      have hN := h.hN
      subst hN
      exact out_one e1 (st_om (es := []) hc w (some j) (ps_set h.nd m1.1 hl.1 q (sw_no rfl _ _ _) hl.2))
  · cases m
theorem cb_lock {st : R} (ia : ClmB T c cx nm N st) : ClmB T c cx nm N (.lock st) := fun X h hp sc ob hs m => by
  unfold mB at m
  split at m
  · rename_i s e1
    exact out_one e1 (st_lock hc ((ia X h hp sc _ hs m).1 _ rfl))
  · cases m
theorem cb_lockN {st : R} (ia : ClmB T c cx nm N st) : ClmB T c cx nm N (.lockN st) := fun X h hp sc ob hs m => by
  unfold mB at m
  split at m
  · rename_i s e1
    exact out_one e1 (st_lockN hc ((ia X h hp sc _ hs m).1 _ rfl))
  · cases m
theorem cb_tryp {st : R} (ia : ClmB T c cx nm N st) : ClmB T c cx nm N (.tryp st) := fun X h hp sc ob hs m => by
  unfold mB at m
  split at m
  · rename_i body h0 hr pos e1
    exact out_one e1 (ps_try_thru0 ((ia X.nox h.nox ⟨PassesOwn.never, hp.fn⟩ sc _ hs m).2 _ rfl))
  · cases m
theorem cb (r : R) : ClmB T c cx nm N r := by
  have no : ∀ {r : R}, (∀ sc ob, mB nm N r sc ob = false) → ClmB T c cx nm N r := fun h X _ _ sc ob _ m => by rw [h] at m; cases m
  induction r with
  | seq a r ia ir => exact cb_seq hc ia ir
  | skip => exact cb_skip hc
  | expr e _ => exact cb_expr hc
  | set i e _ => exact cb_set hc
  | setT is e _ => exact cb_setT hc
  | seti o k e _ _ _ => exact cb_seti hc
  | slcset o e _ _ => exact cb_slcset hc
  | oseti i k e _ _ => exact cb_oseti hc
  | setNAN i o ci k j e _ _ => exact cb_setNAN hc
  | fset o ci k e _ _ => exact cb_fset hc
  | faug o ci k e _ _ => exact cb_faug hc
  | iff k a r _ ia ir => exact cb_iff hc ia ir
  | whl k a _ ia => exact cb_whl hc ia
  | «for» tg it a _ ia => exact cb_for hc ia
  | ret e _ => exact cb_ret hc
  | retn => exact cb_retn hc
  | retv i => exact cb_retv hc
  | brk => exact cb_brk hc
  | cnt => exact cb_cnt hc
  | never => exact cb_never hc
  | lock st ia => exact cb_lock hc ia
  | lockN st ia => exact cb_lockN hc ia
  | tryp st ia => exact cb_tryp hc ia
  | om m i as dst _ => exact cb_om hc
  | _ => exact no fun _ _ => rfl
end
end DL

/-! DL17: a law's defs together; the promise at every depth; the end. -/
namespace DL
open PySem L2 PySem.Spec PyProof.Rows
structure DefI where
  id : Nat
  name : Str
  qual : Str
  st : Stmt
  N : List Str
  ps : List Str
  fn : Fn
  mt : Option Nat
  dn : Bool := false
structure ClsI where
  id : Nat
  name : Str
  lay : List Str
  ini : Nat
structure Inf where
  defs : List DefI
  clss : List ClsI
  gls : List (Nat × Str × Vx)
def Inf.df (L : Inf) (f : Nat) : Option DefI := L.defs.find? fun d => d.id == f
def Inf.cl (L : Inf) (f : Nat) : Option ClsI := L.clss.find? fun d => d.id == f
def Inf.gl (L : Inf) (k : Nat) : Option (Nat × Str × Vx) := L.gls.find? fun d => d.1 == k
def Inf.T (L : Inf) : Tbl where
  fn f := (L.df f).map (·.fn)
  glob k := match L.gl k with
    | some g => g.2.2
    | none => .d .non
  cini c := match L.cl c with
    | some c => c.ini
    | none => 0
  fcls f := match L.df f with
    | some d => d.mt.getD 0
    | none => 0
def Inf.nm (L : Inf) : Nm where
  fnm f := match L.df f with
    | some d => d.name
    | none => ""
  mnm f := match L.df f with
    | some d => d.name
    | none => ""
  gnm k := match L.gl k with
    | some g => g.2.1
    | none => ""
  cnm c := match L.cl c with
    | some c => c.name
    | none => ""
  lay c := match L.cl c with
    | some c => c.lay
    | none => []
  isF f := match L.df f with
    | some d => d.mt.isNone
    | none => false
  isM f := match L.df f with
    | some d => d.mt.isSome
    | none => false
  isG k := (L.gl k).isSome
  isC c := match L.cl c with
    | some c => (match L.df c.ini with
      | some d => decide (d.mt = some c.id) && decide (d.name = ("__init__" : Str))
      | none => false)
    | none => false
  isD c := match L.cl c with
    | some c => (match L.df c.ini with
      | some d => decide (d.mt = some c.id) && decide (d.name = ("__init__" : Str)) && d.dn
      | none => false)
    | none => false
  isL c := (L.cl c).isSome
def scB (N ps : List Str) (sc : Scope) : Bool :=
  (match sc.kind with | .function => true | _ => false) && !sc.isCoroutine && !sc.isGenerator && decide (N.Nodup) && decide (N.take ps.length = ps) &&
    (ps.all fun x => match sc.names.lookup x with | some .local => true | some .cell => true | _ => false) && (sc.names.all fun y => match y.2 with | .free => false | _ => true)
theorem sc_of {N ps : List Str} {sc : Scope} (h : scB N ps sc = true) : FnScope N ps sc := by
  unfold scB at h
  simp only [Bool.and_eq_true, Bool.not_eq_true', decide_eq_true_eq, List.all_eq_true] at h
  obtain ⟨⟨⟨⟨⟨⟨h1, h2⟩, h3⟩, h4⟩, h5⟩, h6⟩, h7⟩ := h
  refine ⟨?_, h2, h3, h4, h5, fun x hx => ?_, fun y hy e => ?_⟩
  · split at h1
    · assumption
    · cases h1
  · have q := h6 x hx
    split at q
    · exact .inl (by assumption)
    · exact .inr (by assumption)
    · cases q
  · have q := h7 y hy
    rw [e] at q
    cases q
def chkD (L : Inf) (d : DefI) : Bool := scB d.N d.ps (defScope d.st) && decide (d.fn.np = d.ps.length) && decide (d.fn.nl = d.N.length) && mB L.nm d.N d.fn.body (defScope d.st) (.inr (defBody d.st))
/-- a def as it stands, with whatever defaults -/
structure FunW (K : Frag) (x qual : Str) (st : Stmt) (f : Addr) (fd : FuncData) : Prop where
  ex : ∃ (oc : Value) (od : Option Addr) (dV kV doc pm : Value) (an : Option Addr) (cdv ct : Value) (osl : Array (Option Value)),
    fd = PySem.W.fnOf x qual (defArgs st) (defBody st) (defScope st) dV kV doc pm an cdv ct ∧ K.lookup f = some ⟨oc, od, .func fd, osl⟩ ∧ PySem.W.codeIn K cdv qual = true
theorem FunW.ok {P : Program} {w : World} {K : Frag} {mg : Str → Option Value} {base : Heap} {x qual : Str} {st : Stmt} {f : Addr} {fd : FuncData} {N ps : List Str} {k : Nat} {sp : Sp} (F : FunW K x qual st f fd) (S : FnScope N ps (defScope st)) (len : ∀ vs H Q E, sp vs H Q E → vs.length = ps.length)
    (hb : ∀ (cdv : Value) (A : Around) (outer : List Env) (s : Shared) (H : Hp) (vs : List V) (Q : VK) (E : XK), Room k (A.deeper (envOfC qual (defScope st) s.heap.objs.size f cdv)) → sp vs H Q E →
      ∃ t, PSs (cxOf CX0 P w K mg base N qual (defScope st) f cdv A outer s H E).nox (defBody st) t ∧ t { nx := fun _ H' => Q .non H', rt := Q } (L2.start N vs) H) : FnOk P w K mg base CX0 (k + 1) f fd ps sp := by
  obtain ⟨oc, od, dV, kV, doc, pm, an, cdv, ct, osl, rfl, lk, hcd⟩ := F.ex
  exact fn_of lk hcd S len fun A outer s H vs Q E hr hsp => match hb cdv A outer s H vs Q E hr hsp with
    | ⟨t, h, q⟩ => ⟨t, h.nox, q⟩
theorem FunW.of {K : Frag} {x qual : Str} {st : Stmt} {f : Addr} {fd : FuncData} (F : Fun K x qual st f fd) : FunW K x qual st f fd := by
  obtain ⟨oc, od, kV, doc, pm, an, cdv, ct, osl, e, lk, hcd⟩ := F.ex
  exact ⟨oc, od, .none, kV, doc, pm, an, cdv, ct, osl, e, lk, hcd⟩
structure FunAt (L : Inf) (K : Frag) (mg : Str → Option Value) (adr : Nat → Addr) (d : DefI) (fa : Addr) (fd : FuncData) : Prop where
  f : FunW K d.name d.qual d.st fa fd
  b : Binds K fd d.ps []
  b1 : d.dn = true → ∃ ds, Vals [V.non] ds ∧ Binds K fd d.ps ds
  r : match d.mt with
    | none => mg d.name = some (.ref fa) ∧ PySem.W.keepIn K (.ref fa) = true
    | some ci => Cls K (adr ci) ∧ Meth K (adr ci) d.name fa ∧ d.name ∉ L.nm.lay ci
structure Facts (L : Inf) (K : Frag) (mg : Str → Option Value) (adr : Nat → Addr) (w : World) : Prop where
  df : ∀ d ∈ L.defs, ∃ fa fd, FunAt L K mg adr d fa fd
  cl : ∀ c ∈ L.clss, ClsOk K ⟨adr, L.nm.lay, w⟩ c.id ∧ PySem.W.makesIn K (adr c.id) = true ∧ PySem.W.keepIn K (.ref (adr c.id)) = true ∧ mg c.name = some (.ref (adr c.id))
  gl : ∀ g ∈ L.gls, ∃ v u, mg g.2.1 = some u ∧ RelV v u ∧ own g.2.2 = false ∧ ∀ S H, Rel K ⟨adr, L.nm.lay, w⟩ S H → RepX K H S g.2.2 v
  blt : ∀ x ∈ bltNames, mg x = none
structure Inf.Chk (L : Inf) : Prop where
  d : ∀ d ∈ L.defs, chkD L d = true
  ids : ∀ d ∈ L.defs, L.df d.id = some d
theorem startS_len {nl : Nat} {xs : List Vx} (h : xs.length ≤ nl) : (startS nl xs).length = nl := by unfold startS; simp; omega
theorem start_at {N : List Str} {xs : List Vx} {vs : List V} {K : Frag} {S : Hs} {H : Hp} (r : Paired (RepX K H S) xs vs) : ∀ (i : Nat) (x : Vx), (startS N.length xs)[i]? = some (some x) → x ∈ xs ∧ ∃ v, (L2.start N vs)[i]? = some (some v) ∧ RepX K H S x v := by
  intro i x e
  have hl := Paired.length r
  unfold startS at e
  unfold L2.start
  by_cases hi : i < xs.length
  · rw [List.getElem?_append_left (by simpa using hi)] at e
    rw [List.getElem?_append_left (by simpa [← hl] using hi)]
    rw [List.getElem?_map] at e
    cases q : xs[i]? with
    | none => rw [q] at e; cases e
    | some y =>
      rw [q] at e
      cases e
      refine ⟨List.mem_of_getElem? q, ?_⟩
      clear hi hl
      induction r generalizing i with
      | nil => simp at q
      | cons p t ih =>
        cases i with
        | zero => simp at q; subst q; exact ⟨_, rfl, p⟩
        | succ i =>
          have q' := by simpa using q
          obtain ⟨v, h1, h2⟩ := ih i q'
          exact ⟨v, by simpa using h1, h2⟩
  · rw [List.getElem?_append_right (by simpa using Nat.le_of_not_lt hi)] at e
    have := List.mem_of_getElem? e
    simp at this
section
variable {L : Inf} {P : Program} {w : World} {K : Frag} {mg : Str → Option Value} {base : Heap} {adr : Nat → Addr}
theorem df_of (hL : L.Chk) {f : Nat} {d : DefI} (e : L.df f = some d) : d ∈ L.defs ∧ d.id = f := by
  unfold Inf.df at e
  exact ⟨List.mem_of_find?_eq_some e, by have := List.find?_some e; simpa using this⟩
theorem cl_of {f : Nat} {d : ClsI} (e : L.cl f = some d) : d ∈ L.clss ∧ d.id = f := by
  unfold Inf.cl at e
  exact ⟨List.mem_of_find?_eq_some e, by have := List.find?_some e; simpa using this⟩
theorem gl_of' {f : Nat} {d : Nat × Str × Vx} (e : L.gl f = some d) : d ∈ L.gls ∧ d.1 = f := by
  unfold Inf.gl at e
  exact ⟨List.mem_of_find?_eq_some e, by have := List.find?_some e; simpa using this⟩
theorem num_ok (hL : L.Chk) (n : Nat) {d : DefI} (hd : d ∈ L.defs) : NumOk (cal L.T n) d.id d.ps.length := by
  intro xs S Q h
  cases n with
  | zero => exact h.elim
  | succ n =>
    obtain ⟨F, e, l, _⟩ := h
    have hc := hL.d d hd
    have ef : L.T.fn d.id = some d.fn := by show (L.df d.id).map (·.fn) = _; rw [hL.ids d hd]; rfl
    rw [ef] at e; cases e
    unfold chkD at hc
    simp only [Bool.and_eq_true, decide_eq_true_eq] at hc
    rw [l, hc.1.1.2]
theorem lev (hL : L.Chk) (X : Facts L K mg adr w) : ∀ n, ∀ d ∈ L.defs, ∀ fa fd, FunAt L K mg adr d fa fd → FnOk P w K mg base CX0 (2 * n) fa fd d.ps (spOf K ⟨adr, L.nm.lay, w⟩ (cal L.T n) d.id d.ps.length)
  | 0, d, hd, fa, fd, hf => ⟨fun vs H Q E h => h.1, fun A outer s H args us vs Q E _ _ _ _ h => by obtain ⟨_, S, xs, _, _, w⟩ := h; exact w.elim⟩
  | n + 1, d, hd, fa, fd, hf => by
    have hc := hL.d d hd
    unfold chkD at hc
    simp only [Bool.and_eq_true, decide_eq_true_eq] at hc
    obtain ⟨⟨⟨c1, c2⟩, c3⟩, c4⟩ := hc
    have ef : L.T.fn d.id = some d.fn := by show (L.df d.id).map (·.fn) = _; rw [hL.ids d hd]; rfl
    have ih := lev hL X n
    refine hf.f.ok (k := 2 * n + 1) (sc_of c1) (fun vs H Q E h => h.1) fun cdv A outer s H vs Q E hr h => ?_
    obtain ⟨hl, S, xs, hrel, hp, F, e, ll, ho, wp⟩ := h
    rw [ef] at e; cases e
    have okx : Okx L.T (cal L.T n) ⟨adr, L.nm.lay, w⟩ L.nm d.N (cxOf CX0 P w K mg base d.N d.qual (defScope d.st) fa cdv A outer s H E).nox := by
      refine ⟨rfl, rfl, (sc_of c1).nd, by have := hr.un; show (A.deeper _).units + 65 < _; omega, X.blt, rfl, rfl, fun f hf => ?_, fun f hf => ?_, fun ci hf => ?_, fun ci hf => ?_, fun ci hf => ?_, fun k hf => ?_⟩
      · cases q : L.df f with
        | none => rw [show L.nm.isF f = (match L.df f with | some d => d.mt.isNone | none => false) from rfl, q] at hf; cases hf
        | some d' =>
          rw [show L.nm.isF f = (match L.df f with | some d => d.mt.isNone | none => false) from rfl, q] at hf
          obtain ⟨hd', rfl⟩ := df_of hL q
          obtain ⟨fa', fd', g⟩ := X.df d' hd'
          have r := g.r
          rw [show d'.mt = none from Option.isNone_iff_eq_none.mp hf] at r
          refine ⟨2 * n, fa', fd', d'.ps, d'.ps.length, ih d' hd' fa' fd' g, num_ok hL n hd', hr.mono (by omega), ?_, r.2, g.b⟩
          show mg (match L.df d'.id with | some d => d.name | none => "") = _
          rw [q]; exact r.1
      · cases q : L.df f with
        | none => rw [show L.nm.isM f = (match L.df f with | some d => d.mt.isSome | none => false) from rfl, q] at hf; cases hf
        | some d' =>
          rw [show L.nm.isM f = (match L.df f with | some d => d.mt.isSome | none => false) from rfl, q] at hf
          obtain ⟨hd', rfl⟩ := df_of hL q
          obtain ⟨fa', fd', g⟩ := X.df d' hd'
          obtain ⟨ci, eci⟩ := Option.isSome_iff_exists.mp hf
          have r := g.r
          rw [eci] at r
          have e1 : L.T.fcls d'.id = ci := by show (match L.df d'.id with | some d => d.mt.getD 0 | none => 0) = _; rw [q]; simp [eci]
          have e2 : L.nm.mnm d'.id = d'.name := by show (match L.df d'.id with | some d => d.name | none => "") = _; rw [q]
          refine ⟨2 * n, fa', fd', d'.ps, d'.ps.length, ?_, ?_, ?_, ih d' hd' fa' fd' g, num_ok hL n hd', hr.mono (by omega), g.b⟩
          · rw [e1]; exact r.1
          · rw [e1, e2]; exact r.2.1
          · rw [e1, e2]; exact r.2.2
      · cases q : L.cl ci with
        | none => rw [show L.nm.isC ci = (match L.cl ci with | some c => (match L.df c.ini with | some d => decide (d.mt = some c.id) && decide (d.name = ("__init__" : Str)) | none => false) | none => false) from rfl, q] at hf; cases hf
        | some c =>
          rw [show L.nm.isC ci = (match L.cl ci with | some c => (match L.df c.ini with | some d => decide (d.mt = some c.id) && decide (d.name = ("__init__" : Str)) | none => false) | none => false) from rfl, q] at hf
          obtain ⟨hcm, rfl⟩ := cl_of q
          simp only at hf
          cases q2 : L.df c.ini with
          | none => rw [q2] at hf; cases hf
          | some d' =>
            rw [q2] at hf
            simp only [Bool.and_eq_true, decide_eq_true_eq] at hf
            obtain ⟨hd', eid⟩ := df_of hL q2
            obtain ⟨fa', fd', g⟩ := X.df d' hd'
            have r := g.r
            rw [hf.1] at r
            obtain ⟨k1, k2, k3, k4⟩ := X.cl c hcm
            have e1 : L.T.cini c.id = d'.id := by show (match L.cl c.id with | some c => c.ini | none => 0) = _; rw [q]; exact eid.symm
            have e2 : L.nm.cnm c.id = c.name := by show (match L.cl c.id with | some c => c.name | none => "") = _; rw [q]
            have r2 := r.2.1.at_
            rw [hf.2] at r2
            rw [e1, e2]
            exact ⟨2 * n, fa', fd', d'.ps, d'.ps.length, ⟨k2, r2, r.2.1.fn, k3⟩, ih d' hd' fa' fd' g, num_ok hL n hd', hr, k4, g.b⟩
      · cases q : L.cl ci with
        | none => rw [show L.nm.isD ci = (match L.cl ci with | some c => (match L.df c.ini with | some d => decide (d.mt = some c.id) && decide (d.name = ("__init__" : Str)) && d.dn | none => false) | none => false) from rfl, q] at hf; cases hf
        | some c =>
          rw [show L.nm.isD ci = (match L.cl ci with | some c => (match L.df c.ini with | some d => decide (d.mt = some c.id) && decide (d.name = ("__init__" : Str)) && d.dn | none => false) | none => false) from rfl, q] at hf
          obtain ⟨hcm, rfl⟩ := cl_of q
          simp only at hf
          cases q2 : L.df c.ini with
          | none => rw [q2] at hf; cases hf
          | some d' =>
            rw [q2] at hf
            simp only [Bool.and_eq_true, decide_eq_true_eq] at hf
            obtain ⟨hd', eid⟩ := df_of hL q2
            obtain ⟨fa', fd', g⟩ := X.df d' hd'
            have r := g.r
            rw [hf.1.1] at r
            obtain ⟨k1, k2, k3, k4⟩ := X.cl c hcm
            have e1 : L.T.cini c.id = d'.id := by show (match L.cl c.id with | some c => c.ini | none => 0) = _; rw [q]; exact eid.symm
            have e2 : L.nm.cnm c.id = c.name := by show (match L.cl c.id with | some c => c.name | none => "") = _; rw [q]
            have r2 := r.2.1.at_
            rw [hf.1.2] at r2
            rw [e1, e2]
            obtain ⟨ds, hds, hb1⟩ := g.b1 hf.2
            exact ⟨2 * n, fa', fd', d'.ps, d'.ps.length, ds, ⟨k2, r2, r.2.1.fn, k3⟩, ih d' hd' fa' fd' g, num_ok hL n hd', hr, k4, hds, hb1⟩
      · cases q : L.cl ci with
        | none => rw [show L.nm.isL ci = (L.cl ci).isSome from rfl, q] at hf; cases hf
        | some c =>
          obtain ⟨hcm, rfl⟩ := cl_of q
          exact (X.cl c hcm).1
      · cases q : L.gl k with
        | none => rw [show L.nm.isG k = (L.gl k).isSome from rfl, q] at hf; cases hf
        | some g =>
          obtain ⟨hgm, e⟩ := gl_of' q
          have e1 : L.nm.gnm k = g.2.1 := by show (match L.gl k with | some g => g.2.1 | none => "") = _; rw [q]
          have e2 : L.T.glob k = g.2.2 := by show (match L.gl k with | some g => g.2.2 | none => .d .non) = _; rw [q]
          rw [e1, e2]
          exact X.gl g hgm
    refine ⟨liftS K ⟨adr, L.nm.lay, w⟩ (wpS L.T (cal L.T n) d.fn.body), (cb (cal_mono n) d.fn.body _ okx ⟨PassesOwn.never, fun _ => rfl⟩ _ _ rfl c4).2 _ rfl, ?_⟩
    have hlen : xs.length = vs.length := Paired.length hp
    have hN : vs.length ≤ d.N.length := by
      have := congrArg List.length (sc_of c1).pre
      rw [List.length_take] at this
      omega
    have all : ∀ x ∈ xs, own x = false := fun x hx => by
      have := List.all_eq_true.mp ho x hx
      simpa using this
    refine ⟨⟨fun b => S b = none ∧ H b ≠ none, H, H⟩, S, startS d.fn.nl xs, hrel, ⟨⟨?_, fun i x e => ?_⟩, fun i x a e o _ => ?_, fun i x a e l e' => ?_⟩, ⟨fun b z => ⟨z.1, rfl, z.2⟩, fun b z => z⟩, ?_⟩
    · rw [startS_len (by rw [c3, hlen]; exact hN), c3]; unfold L2.start; simp; omega
    · rw [c3] at e
      exact (start_at hp i x e).2
    · rw [c3] at e
      rw [all x (start_at hp i x e).1] at o; cases o
    · rw [c3] at e
      obtain ⟨_, v, h1, h2⟩ := start_at hp i x e
      rw [h1] at e'; cases e'
      cases x with
      | bw ds => obtain ⟨p, us, ep, h, nn, _⟩ := h2; cases ep; exact ⟨nn, by rw [h]; simp⟩
      | bd ds => obtain ⟨p, us, ep, h, nn, _⟩ := h2; cases ep; exact ⟨nn, by rw [h]; simp⟩
      | _ => cases l
    · have kp : ∀ {B' : Bs} {S' : Hs} {H' : Hp}, Bs.Le ⟨fun b => S b = none ∧ H b ≠ none, H, H⟩ B' → KeepB B' S' H' → Keep S S' H H' := fun {B' S' H'} l k => by
        have k := KeepB.le l k
        exact ⟨fun b o e n => by
          obtain ⟨h1, h2, h3⟩ := k.st b ⟨n, by rw [e]; simp⟩
          exact ⟨h2.trans e, h1⟩, k.hn⟩
      refine wpS_mono (cal_mono n) (fun σ2 S' q B' σ' H' l hr' rs' kb' => q _ _ hr' (kp l kb') ⟨rfl, fun e => by cases e⟩) (fun x S' q B' v H' l hr' kb' rx ho' => q v H' hr' (kp l kb') ⟨rx, ho'⟩) (fun _ _ z => z.elim) (fun _ _ z => z.elim) wp
/-- the law's promise -/
def spLaw (K : Frag) : Sp := fun vs H Q _ => ∃ (a : Addr) (ns : List Int), vs = [.ref a] ∧ Only H ∧ SqL K H a (ns.map V.int) ∧ ns.length ≤ 63 ∧ (∀ z ∈ ns, Builtin.Int.intBits z ≤ 1048576) ∧ ∀ H', Q (.bl true) H'
def Holds2 (L : Inf) (f : Nat) : Prop := ∀ ns : List Int, ns.length ≤ 63 → (∀ z ∈ ns, Builtin.Int.intBits z ≤ 1048576) → cal L.T 100 f [.fz (ns.map D.int)] (fun _ => none) fun r _ => r = .d (.bl true)
theorem law_ok (hL : L.Chk) (X : Facts L K mg adr w) {d : DefI} (hd : d ∈ L.defs) (hps : d.ps = [("script" : Str)]) (h2 : Holds2 L d.id) {fa : Addr} {fd : FuncData} (hf : FunAt L K mg adr d fa fd) : FnOk P w K mg base CX0 200 fa fd ["script"] (spLaw K) := by
  have h := lev (P := P) (w := w) (base := base) hL X 100 d hd fa fd hf
  rw [hps] at h
  refine h.imp fun vs H Q E ⟨a, ns, e, hO, hS, hl, hb, k⟩ => ?_
  subst e
  refine ⟨rfl, fun _ => none, [.fz (ns.map D.int)], (fun b o e => (by cases e)), .cons ⟨a, ns.map V.int, rfl, ?_, RepL.ofInts ns⟩ .nil, cal_mono 100 _ _ _ _ _ (fun x S e v H' hr kk rx => ?_) (h2 ns hl hb)⟩
  · rcases hS with (hS | ⟨o, hS⟩) | hS
    · rcases hO a with z | ⟨o, xs, z⟩
      · rw [z] at hS; cases hS
      · rw [z] at hS; cases hS
    · exact .inl ⟨o, hS, rfl⟩
    · exact .inr (.inr hS)
  · subst e
    cases rx.1
    exact k H'
/-- a def of the top, a method, as they stand -/
theorem at_fun {d : DefI} {h : Heap} (hdn : d.dn = false) (KX : K.In h) (G : h.Ns mainGlobals mg) (hm : d.mt = none) {f : Addr} {oc : Value} {od an : Option Addr} {osl : Array (Option Value)} {kV doc pm cdv ct : Value}
    (a : PySem.W.nsIn K mainGlobals d.name = some (some (.ref f))) (l : K.lookup f = some ⟨oc, od, .func (PySem.W.fnOf d.name d.qual (defArgs d.st) (defBody d.st) (defScope d.st) .none kV doc pm an cdv ct), osl⟩)
    (c : PySem.W.codeIn K cdv d.qual = true) (k : PySem.W.keepIn K (.ref f) = true)
    (hb : ∀ (kV doc pm : Value) (an : Option Addr) (cdv ct : Value) (us : List Value), us.length = d.ps.length → bindArgs (PySem.W.fnOf d.name d.qual (defArgs d.st) (defBody d.st) (defScope d.st) .none kV doc pm an cdv ct) ⟨us, []⟩ = pure (d.ps.zip us)) :
    FunAt L K mg adr d f (PySem.W.fnOf d.name d.qual (defArgs d.st) (defBody d.st) (defScope d.st) .none kV doc pm an cdv ct) :=
  ⟨.of (fun_mk l c k), (fun_mk l c k).binds hb, fun e => (by rw [hdn] at e; cases e), by rw [hm]; exact ⟨PySem.W.mg_of KX G a, k⟩⟩
theorem at_meth {d : DefI} {ci : Nat} (hdn : d.dn = false) (hm : d.mt = some ci) (hcl : Cls K (adr ci)) (hno : d.name ∉ L.nm.lay ci) {f : Addr} {oc : Value} {od an : Option Addr} {osl : Array (Option Value)} {kV doc pm cdv ct : Value}
    (a : PySem.W.findIn K (.ref (adr ci)) d.name = some (some (.ref f))) (i : PySem.W.isFn K (.ref f) = true) (l : K.lookup f = some ⟨oc, od, .func (PySem.W.fnOf d.name d.qual (defArgs d.st) (defBody d.st) (defScope d.st) .none kV doc pm an cdv ct), osl⟩)
    (c : PySem.W.codeIn K cdv d.qual = true) (k : PySem.W.keepIn K (.ref f) = true)
    (hb : ∀ (kV doc pm : Value) (an : Option Addr) (cdv ct : Value) (us : List Value), us.length = d.ps.length → bindArgs (PySem.W.fnOf d.name d.qual (defArgs d.st) (defBody d.st) (defScope d.st) .none kV doc pm an cdv ct) ⟨us, []⟩ = pure (d.ps.zip us)) :
    FunAt L K mg adr d f (PySem.W.fnOf d.name d.qual (defArgs d.st) (defBody d.st) (defScope d.st) .none kV doc pm an cdv ct) :=
  ⟨.of (fun_mk l c k), (fun_mk l c k).binds hb, fun e => (by rw [hdn] at e; cases e), by rw [hm]; exact ⟨hcl, ⟨a, i, k⟩, hno⟩⟩
/-- a method whose last parameter is None where it isn't told -/
theorem at_methD {d : DefI} {ci np : Nat} (hnp : d.ps.length = np + 1) (hm : d.mt = some ci) (hcl : Cls K (adr ci)) (hno : d.name ∉ L.nm.lay ci) {f : Addr} {oc : Value} {od an : Option Addr} {osl : Array (Option Value)} {kV doc pm cdv ct : Value}
    (a : PySem.W.findIn K (.ref (adr ci)) d.name = some (some (.ref f))) (i : PySem.W.isFn K (.ref f) = true) {tD : Addr} {oD : Obj} {iD : Array Value} {nD : Nat} (l : K.lookup f = some ⟨oc, od, .func (PySem.W.fnOf d.name d.qual (defArgs d.st) (defBody d.st) (defScope d.st) (.ref tD) kV doc pm an cdv ct), osl⟩)
    (lD : K.lookup tD = some oD) (gD : oD.data = .seq iD nD) (vD : Vals [V.non] iD.toList)
    (c : PySem.W.codeIn K cdv d.qual = true) (k : PySem.W.keepIn K (.ref f) = true)
    (hb : ∀ (T : Addr) (kV doc pm : Value) (an : Option Addr) (cdv ct : Value) (us its : List Value), us.length = np + 1 → its.length = 1 →
      ∃ k, bindArgs (PySem.W.fnOf d.name d.qual (defArgs d.st) (defBody d.st) (defScope d.st) (.ref T) kV doc pm an cdv ct) ⟨us, []⟩ = seqItems? (.ref T) >>= k ∧ k (some its.toArray) = pure (d.ps.zip (us ++ its.drop 1)))
    (hb1 : ∀ (T : Addr) (kV doc pm : Value) (an : Option Addr) (cdv ct : Value) (us its : List Value), us.length = np → its.length = 1 →
      ∃ k, bindArgs (PySem.W.fnOf d.name d.qual (defArgs d.st) (defBody d.st) (defScope d.st) (.ref T) kV doc pm an cdv ct) ⟨us, []⟩ = seqItems? (.ref T) >>= k ∧ k (some its.toArray) = pure (d.ps.zip (us ++ its.drop 0))) :
    FunAt L K mg adr d f (PySem.W.fnOf d.name d.qual (defArgs d.st) (defBody d.st) (defScope d.st) (.ref tD) kV doc pm an cdv ct) := by
  have F : FunD K d.name d.qual (defArgs d.st) (defBody d.st) (defScope d.st) [V.non] [] f (PySem.W.fnOf d.name d.qual (defArgs d.st) (defBody d.st) (defScope d.st) (.ref tD) kV doc pm an cdv ct) :=
    ⟨⟨oc, od, _, kV, doc, pm, an, cdv, ct, osl, rfl, l, c, .inr ⟨by simp, tD, oD, iD.toList, nD, rfl, lD, by simpa using gD, vD⟩, .inl rfl⟩, k⟩
  refine ⟨⟨oc, od, _, kV, doc, pm, an, cdv, ct, osl, rfl, l, c⟩, ?_, fun _ => ?_, by rw [hm]; exact ⟨hcl, ⟨a, i, k⟩, hno⟩⟩
  · obtain ⟨ds, h1, h2⟩ := F.binds1 (ps := d.ps) (np + 1) 1 (by simp) (by simp [hnp]) hb
    cases h1
    exact h2
  · exact F.binds1 (ps := d.ps) np 0 (by simp) (by simp [hnp]) hb1
end
theorem walk {l : PySem.W.OpenLaw} {q : Program} {loose : List Str} {XP : (Str → Option Value) → Heap → Prop} {YP : World → Heap → Prop} {d : DefRec} {K : Params → PySem.W.Frag} (hn : l.most = some 63) (hdf : d.params.defaults = [])
    (hY : ∀ (w : World) (h : Heap), YP w h → (K w.params).In h)
    (F : ∀ (w : World) (mg : Str → Option Value) (fa : Addr) (h : Heap), (K w.params).In h → h.Ns mainGlobals mg → mg d.name = some (.ref fa) →
      ∃ fd : FuncData, (∀ (s : Shared) (u : Value), BindsTo s fd ⟨[u], []⟩ [("script", u)]) ∧ ∀ base : Heap, (K w.params).In base → base.Ns mainGlobals mg → FnOk l.prog w (K w.params) mg base CX0 200 fa fd ["script"] (spLaw (K w.params))) :
    PySem.W.WalkO q loose XP YP l.row.toRowW d [] (fun f vs => PySem.call f vs) :=
  L2.walk_ofB (n := 63) (k := 200) (x := "script") (CX := fun _ => CX0) (sp := fun w => spLaw (K w.params)) hn (by decide) hdf ⟨rfl, by decide, by decide⟩ hY F (fun _ H a ns hl hb hO hS => ⟨a, ns, rfl, hO, hS, hl, hb, fun _ => rfl⟩) fun _ _ _ _ _ z => z
end DL

/-! DL18: small words for the end. -/
namespace DL
open PySem L2 PySem.Spec PyProof.Rows
theorem chk_of {L : Inf} (h : L.defs.all (chkD L) = true) (hn : (L.defs.map (·.id)).Nodup) : L.Chk := by
  refine ⟨fun d hd => List.all_eq_true.mp h d hd, fun d hd => ?_⟩
  unfold Inf.df
  clear h
  generalize L.defs = ds at hn hd
  induction ds with
  | nil => cases hd
  | cons e es ih =>
    simp only [List.map_cons, List.nodup_cons] at hn
    rcases List.mem_cons.mp hd with rfl | hd
    · simp [List.find?_cons]
    · have ne : e.id ≠ d.id := fun z => hn.1 (z ▸ List.mem_map_of_mem hd)
      rw [List.find?_cons]
      have : (e.id == d.id) = false := beq_eq_false_iff_ne.mpr ne
      rw [this]
      exact ih hn.2 hd
section
variable {K : Frag} {mg : Str → Option Value} {h : Heap}
theorem blt_of (KX : K.In h) (G : h.Ns mainGlobals mg) (b1 : PySem.W.nsIn K mainGlobals "len" = some none) (b2 : PySem.W.nsIn K mainGlobals "int" = some none) (b3 : PySem.W.nsIn K mainGlobals "str" = some none) (b4 : PySem.W.nsIn K mainGlobals "list" = some none)
    (b5 : PySem.W.nsIn K mainGlobals "tuple" = some none) (b6 : PySem.W.nsIn K mainGlobals "sorted" = some none) (b7 : PySem.W.nsIn K mainGlobals "all" = some none) (b8 : PySem.W.nsIn K mainGlobals "any" = some none)
    (b9 : PySem.W.nsIn K mainGlobals "min" = some none) (b10 : PySem.W.nsIn K mainGlobals "max" = some none) (b11 : PySem.W.nsIn K mainGlobals "range" = some none) (b12 : PySem.W.nsIn K mainGlobals "enumerate" = some none)
    (b13 : PySem.W.nsIn K mainGlobals "zip" = some none) (b14 : PySem.W.nsIn K mainGlobals "isinstance" = some none) (b15 : PySem.W.nsIn K mainGlobals "bool" = some none) (b16 : PySem.W.nsIn K mainGlobals "dict" = some none) (b17 : PySem.W.nsIn K mainGlobals "sum" = some none) (b18 : PySem.W.nsIn K mainGlobals "set" = some none) : ∀ x ∈ bltNames, mg x = none := by
  intro x hx
  unfold bltNames at hx
  simp only [List.mem_cons, List.not_mem_nil, or_false] at hx
  rcases hx with rfl | rfl | rfl | rfl | rfl | rfl | rfl | rfl | rfl | rfl | rfl | rfl | rfl | rfl | rfl | rfl | rfl | rfl
  · exact PySem.W.mg_none_of KX G b1
  · exact PySem.W.mg_none_of KX G b2
  · exact PySem.W.mg_none_of KX G b3
  · exact PySem.W.mg_none_of KX G b4
  · exact PySem.W.mg_none_of KX G b5
  · exact PySem.W.mg_none_of KX G b6
  · exact PySem.W.mg_none_of KX G b7
  · exact PySem.W.mg_none_of KX G b8
  · exact PySem.W.mg_none_of KX G b9
  · exact PySem.W.mg_none_of KX G b10
  · exact PySem.W.mg_none_of KX G b11
  · exact PySem.W.mg_none_of KX G b12
  · exact PySem.W.mg_none_of KX G b13
  · exact PySem.W.mg_none_of KX G b14
  · exact PySem.W.mg_none_of KX G b15
  · exact PySem.W.mg_none_of KX G b16
  · exact PySem.W.mg_none_of KX G b17
  · exact PySem.W.mg_none_of KX G b18
theorem gl_int {cx : Cls2} (KX : K.In h) (G : h.Ns mainGlobals mg) {x : Str} {k : Nat} {i : Int} {t : Tok} (a : PySem.W.nsIn K mainGlobals x = some (some (.int i t))) : ∃ v u, mg ((k, x, Vx.d (.int i)) : Nat × Str × Vx).2.1 = some u ∧ RelV v u ∧ own ((k, x, Vx.d (.int i)) : Nat × Str × Vx).2.2 = false ∧ ∀ S H, Rel K cx S H → RepX K H S ((k, x, Vx.d (.int i)) : Nat × Str × Vx).2.2 v :=
  ⟨.int i, _, PySem.W.mg_of KX G a, ⟨t, rfl⟩, rfl, fun _ _ _ => rfl⟩
theorem rep_strs {K : Frag} {H : Hp} : ∀ ss : List (List Nat), RepL K H (ss.map D.str) (ss.map fun s => V.str (sv s))
  | [] => rfl
  | _ :: ss => ⟨_, _, rfl, rfl, rep_strs ss⟩
/-- a tuple of texts that the top has left -/
theorem gl_tup {cx : Cls2} (KX : K.In h) (G : h.Ns mainGlobals mg) {x : Str} {k : Nat} (ss : List (List Nat)) {a : Addr} {o : Obj} {its : Array Value} {n : Nat} (e : PySem.W.nsIn K mainGlobals x = some (some (.ref a))) (l : K.lookup a = some o) (hc : o.cls = .type "tuple") (hd : o.data = .seq its n)
    (r : Vals (ss.map fun s => V.str (sv s)) its.toList) (z : ss.length ≤ 1000) : ∃ v u, mg ((k, x, Vx.d (.tup (ss.map D.str))) : Nat × Str × Vx).2.1 = some u ∧ RelV v u ∧ own ((k, x, Vx.d (.tup (ss.map D.str))) : Nat × Str × Vx).2.2 = false ∧ ∀ S H, Rel K cx S H → RepX K H S ((k, x, Vx.d (.tup (ss.map D.str))) : Nat × Str × Vx).2.2 v :=
  ⟨.ref a, _, PySem.W.mg_of KX G e, rfl, rfl, fun _ H _ => ⟨a, _, rfl, .inr ⟨o, its, n, l, hc, hd, by
    have := r.length
    simp at this
    have h2 : (1000 : Nat) ≤ sizeLine := by decide
    omega, r⟩, rep_strs ss⟩⟩
/-- a tuple of ints that the top has left -/
theorem gl_tupi {cx : Cls2} (KX : K.In h) (G : h.Ns mainGlobals mg) {x : Str} {k : Nat} (ss : List Int) {a : Addr} {o : Obj} {its : Array Value} {n : Nat} (e : PySem.W.nsIn K mainGlobals x = some (some (.ref a))) (l : K.lookup a = some o) (hc : o.cls = .type "tuple") (hd : o.data = .seq its n)
    (r : Vals (ss.map V.int) its.toList) (z : ss.length ≤ 1000) : ∃ v u, mg ((k, x, Vx.d (.tup (ss.map D.int))) : Nat × Str × Vx).2.1 = some u ∧ RelV v u ∧ own ((k, x, Vx.d (.tup (ss.map D.int))) : Nat × Str × Vx).2.2 = false ∧ ∀ S H, Rel K cx S H → RepX K H S ((k, x, Vx.d (.tup (ss.map D.int))) : Nat × Str × Vx).2.2 v :=
  ⟨.ref a, _, PySem.W.mg_of KX G e, rfl, rfl, fun _ H _ => ⟨a, _, rfl, .inr ⟨o, its, n, l, hc, hd, by
    have := r.length
    simp at this
    have h2 : (1000 : Nat) ≤ sizeLine := by decide
    omega, r⟩, RepL.ofInts ss⟩⟩
end
end DL

namespace LW
open PySem L2 PySem.Spec PyProof.Rows DL
def f_is_whole : Fn := ⟨1, 1, (.ret (.and (.o1 (.isi .int) (.v 0)) (.one (.not (.o1 (.isi .bool) (.v 0))))))⟩
def f_is_between : Fn := ⟨3, 3, (.ret (.and (.call 1 (.cons (.v 0) .nil)) (.one (.chain .le .le (.v 1) (.v 0) (.v 2)))))⟩
def f_is_world : Fn := ⟨1, 1, (.seq (.iff (.or (.not (.o1 (.isi .tuple) (.v 0))) (.or (.o2 .ne (.o1 .len (.v 0)) (.i 2)) (.one (.not (.call 2 (.cons (.o2 .idx (.v 0) (.i 0)) (.cons (.i 1) (.cons (.g 1) .nil)))))))) (.ret (.b false)) .skip) (.ret (.call 2 (.cons (.o2 .idx (.v 0) (.i 1)) (.cons (.g 2) (.cons (.g 3) .nil))))))⟩
def f_law_pen : Fn := ⟨1, 1, (.ret (.lst (.consb (.o1 .list (.slc (.v 0) .n (.i 63))) (.consb (.i 0) (.consb (.i 0) .nil)))))⟩
def f_law_take : Fn := ⟨2, 8, (.seq (.iff (.o2 .eq (.o2 .idx (.v 0) (.i 2)) (.i 0)) (.seq (.set 2 (.o2 .idx (.v 0) (.i 1))) (.seq (.seti (.v 0) (.i 1) (.o2 .add (.v 2) (.i 1))) (.seq (.set 3 (.i 0)) (.seq (.iff (.o2 .lt (.v 2) (.o1 .len (.o2 .idx (.v 0) (.i 0)))) (.set 3 (.o2 .idx (.o2 .idx (.v 0) (.i 0)) (.v 2))) (.iff (.o2 .gt (.o1 .len (.o2 .idx (.v 0) (.i 0))) (.i 0)) (.set 3 (.o2 .add (.o2 .mod (.o2 .idx (.o2 .idx (.v 0) (.i 0)) (.o2 .mod (.o2 .mul (.v 2) (.i 3)) (.o1 .len (.o2 .idx (.v 0) (.i 0))))) (.i 1000003)) (.o2 .mul (.i 97) (.v 2)))) .skip)) (.seq (.set 4 (.o2 .mod (.o2 .mul (.o2 .add (.o2 .add (.o2 .mod (.v 3) (.i 998244353)) (.o2 .mul (.i 53) (.v 2))) (.i 1)) (.i 48271)) (.i 2147483647))) (.seq (.set 5 (.o2 .mod (.o2 .add (.o2 .add (.o2 .mul (.v 4) (.v 4)) (.o2 .mul (.i 69621) (.v 2))) (.i 5)) (.i 1000000007))) (.seq (.set 6 (.o2 .mod (.o2 .add (.o2 .mul (.v 5) (.v 5)) (.v 4)) (.i 998244353))) (.seq (.seti (.v 0) (.i 2) (.o2 .add (.o2 .fdiv (.o2 .add (.o2 .mul (.v 5) (.i 998244353)) (.v 6)) (.i 16)) (.i 1))) (.iff (.o2 .ge (.v 3) (.o2 .pow (.i 10) (.i 18))) (.seti (.v 0) (.i 2) (.o2 .fdiv (.v 3) (.o2 .pow (.i 10) (.i 18)))) .skip))))))))) .skip) (.seq (.set 7 (.o2 .mod (.o2 .idx (.v 0) (.i 2)) (.v 1))) (.seq (.seti (.v 0) (.i 2) (.o2 .fdiv (.o2 .idx (.v 0) (.i 2)) (.v 1))) (.retv 7))))⟩
def f_law_world : Fn := ⟨1, 1, (.ret (.tup (.consb (.o2 .add (.i 1) (.call 5 (.cons (.v 0) (.cons (.i 6) .nil)))) (.consb (.o2 .idx (.lst (.consb (.i 2) (.consb (.i 3) (.consb (.i 5) (.consb (.i 10) (.consb (.o2 .add (.i 2) (.call 5 (.cons (.v 0) (.cons (.i 999) .nil)))) .nil)))))) (.call 5 (.cons (.v 0) (.cons (.i 5) .nil)))) .nil))))⟩
def f_law_bent : Fn := ⟨2, 6, (.seq (.setT [2, 3] (.v 1)) (.seq (.set 4 (.call 5 (.cons (.v 0) (.cons (.o2 .pow (.i 10) (.i 50)) .nil)))) (.seq (.set 5 (.lst (.consb (.tup (.consb (.i 0) (.consb (.v 3) .nil))) (.consb (.tup (.consb (.i 7) (.consb (.v 3) .nil))) (.consb (.tup (.consb (.v 2) (.consb (.i 1) .nil))) (.consb (.tup (.consb (.v 2) (.consb (.i 1001) .nil))) (.consb (.tup (.consb (.o2 .sub (.i 0) (.v 2)) (.consb (.v 3) .nil))) (.consb (.tup (.consb (.v 2) (.consb (.i 0) .nil))) .nil)))))))) (.seq (.set 5 (.o2 .add (.v 5) (.lst (.consb (.tup (.consb (.o2 .add (.i 7) (.v 4)) (.consb (.v 3) .nil))) (.consb (.tup (.consb (.v 2) (.consb (.o2 .add (.i 1001) (.v 4)) .nil))) (.consb (.tup (.consb (.v 2) (.consb (.o2 .sub (.i 0) (.v 4)) .nil))) .nil)))))) (.seq (.set 5 (.o2 .add (.v 5) (.lst (.consb (.tup (.consb (.b true) (.consb (.v 3) .nil))) (.consb (.tup (.consb (.v 2) (.consb (.b true) .nil))) (.consb (.tup (.consb (.o1 .str (.v 2)) (.consb (.v 3) .nil))) (.consb (.tup (.consb (.v 2) (.consb .n .nil))) (.consb (.lst (.consb (.v 2) (.consb (.v 3) .nil))) .nil)))))))) (.seq (.set 5 (.o2 .add (.v 5) (.lst (.consb (.tup (.consb (.v 2) .nil)) (.consb (.tup (.consb (.v 2) (.consb (.v 3) (.consb (.v 3) .nil)))) (.consb (.tup .nil) (.consb (.tup (.consb (.v 3) (.consb (.v 2) .nil))) (.consb (.tup (.consb (.v 2) (.consb (.tup (.consb (.v 3) .nil)) .nil))) (.consb (.v 1) .nil))))))))) (.seq (.set 5 (.o2 .add (.v 5) (.lst (.consb (.tup (.consb (.lst (.consb (.v 2) .nil)) (.consb (.v 3) .nil))) (.consb (.tup (.consb (.v 2) (.consb (.lst (.consb (.v 3) .nil)) .nil))) .nil))))) (.ret (.o2 .idx (.v 5) (.call 5 (.cons (.v 0) (.cons (.i 22) .nil))))))))))))⟩
def f_law_due : Fn := ⟨1, 2, (.seq (.iff (.or (.not (.o1 (.isi .tuple) (.v 0))) (.one (.o2 .ne (.o1 .len (.v 0)) (.i 2)))) (.ret (.b false)) .skip) (.seq (.for (.nm 1) (.itv 0) (.iff (.or (.not (.o1 (.isi .int) (.v 1))) (.one (.o1 (.isi .bool) (.v 1)))) (.ret (.b false)) .skip)) (.ret (.and (.chain .le .le (.i 1) (.o2 .idx (.v 0) (.i 0)) (.i 6)) (.one (.chain .le .le (.i 2) (.o2 .idx (.v 0) (.i 1)) (.i 1000)))))))⟩
def f_law_answers : Fn := ⟨1, 2, (.seq (.set 1 (.call 3 (.cons (.v 0) .nil))) (.ret (.and (.o1 (.isi .bool) (.v 1)) (.one (.o2 .eq (.v 1) (.call 9 (.cons (.v 0) .nil)))))))⟩
def f_law : Fn := ⟨1, 5, (.seq (.set 1 (.call 4 (.cons (.v 0) .nil))) (.seq (.box 1) (.seq (.for (.nm 2) (.rng (.i 6)) (.seq (.set 3 (.call 6 (.cons (.v 1) .nil))) (.iff (.or (.o2 .isnt (.call 3 (.cons (.v 3) .nil)) (.b true)) (.one (.not (.call 10 (.cons (.call 8 (.cons (.v 1) (.cons (.v 3) .nil))) .nil))))) (.ret (.b false)) .skip))) (.seq (.for (.nm 4) (.ite (.lst (.consb .n (.consb (.i 0) (.consb (.s [119, 111, 114, 108, 100]) (.consb (.lst .nil) (.consb (.tup (.consb (.i 1) (.consb (.i 2) .nil))) (.consb (.tup (.consb (.i 6) (.consb (.i 1000) .nil))) (.consb (.tup (.consb (.i 6) (.consb (.i 1001) .nil))) (.consb (.tup (.consb (.i 7) (.consb (.i 1000) .nil))) (.consb (.tup (.consb (.i 1) (.consb (.i 1) .nil))) (.consb (.tup (.consb (.i 0) (.consb (.i 2) .nil))) (.consb (.tup (.consb (.tup (.consb (.i 1) (.consb (.i 2) .nil))) .nil)) .nil))))))))))))) (.iff (.not (.call 10 (.cons (.v 4) .nil))) (.ret (.b false)) .skip)) (.ret (.b true))))))⟩
def f_is_state : Fn := ⟨2, 3, (.seq (.iff (.or (.not (.o1 (.isi .tuple) (.v 1))) (.one (.o2 .ne (.o1 .len (.v 1)) (.o2 .idx (.v 0) (.i 0))))) (.ret (.b false)) .skip) (.ret (.o1 .all (.comp (.nm 2) (.call 2 (.cons (.v 2) (.cons (.i 0) (.cons (.o2 .sub (.o2 .idx (.v 0) (.i 1)) (.i 1)) .nil)))) (.itv 1) (.b true)))))⟩
def f_law_state : Fn := ⟨2, 3, (.ret (.o1 .tuple (.comp (.nm 2) (.call 5 (.cons (.v 0) (.cons (.o2 .idx (.v 1) (.i 1)) .nil))) (.rng (.o2 .idx (.v 1) (.i 0))) (.b true))))⟩
def f_law_bent_2 : Fn := ⟨3, 8, (.seq (.set 3 (.call 5 (.cons (.v 0) (.cons (.o2 .idx (.v 1) (.i 0)) .nil)))) (.seq (.set 4 (.call 5 (.cons (.v 0) (.cons (.o2 .pow (.i 10) (.i 50)) .nil)))) (.seq (.set 5 (.lst (.consb (.o2 .idx (.v 1) (.i 1)) (.consb (.o2 .add (.o2 .idx (.v 1) (.i 1)) (.v 4)) (.consb (.o2 .sub (.i 0) (.i 1)) (.consb (.o2 .sub (.o2 .sub (.i 0) (.i 1)) (.v 4)) (.consb (.b true) .nil))))))) (.seq (.set 5 (.o2 .add (.v 5) (.lst (.consb (.b false) (.consb .n (.consb (.o1 .str (.o2 .idx (.v 2) (.v 3))) (.consb (.tup (.consb (.o2 .idx (.v 2) (.v 3)) .nil)) (.consb (.lst (.consb (.o2 .idx (.v 2) (.v 3)) .nil)) .nil)))))))) (.seq (.set 6 (.o2 .idx (.v 5) (.call 5 (.cons (.v 0) (.cons (.i 10) .nil))))) (.seq (.box 6) (.seq (.set 7 (.call 5 (.cons (.v 0) (.cons (.i 6) .nil)))) (.seq (.iff (.o2 .lt (.v 7) (.i 3)) (.ret (.o2 .add (.o2 .add (.slc (.v 2) .n (.v 3)) (.tup (.consb (.v 6) .nil))) (.slc (.v 2) (.o2 .add (.v 3) (.i 1)) .n))) .skip) (.ret (.o2 .idx (.lst (.consb (.o1 .list (.v 2)) (.consb (.o2 .add (.v 2) (.tup (.consb (.i 0) .nil))) (.consb (.o2 .add (.slc (.v 2) .n (.v 3)) (.slc (.v 2) (.o2 .add (.v 3) (.i 1)) .n)) .nil)))) (.o2 .sub (.v 7) (.i 3))))))))))))⟩
def f_law_due_2 : Fn := ⟨2, 3, (.seq (.iff (.or (.not (.o1 (.isi .tuple) (.v 1))) (.one (.o2 .ne (.o1 .len (.v 1)) (.o2 .idx (.v 0) (.i 0))))) (.ret (.b false)) .skip) (.seq (.for (.nm 2) (.itv 1) (.iff (.or (.not (.o1 (.isi .int) (.v 2))) (.or (.o1 (.isi .bool) (.v 2)) (.one (.not (.chain .le .lt (.i 0) (.v 2) (.o2 .idx (.v 0) (.i 1))))))) (.ret (.b false)) .skip)) (.ret (.b true))))⟩
def f_law_answers_2 : Fn := ⟨2, 3, (.seq (.set 2 (.call 12 (.cons (.v 0) (.cons (.v 1) .nil)))) (.ret (.and (.o1 (.isi .bool) (.v 2)) (.one (.o2 .eq (.v 2) (.call 14 (.cons (.v 0) (.cons (.v 1) .nil))))))))⟩
def f_law_2 : Fn := ⟨1, 6, (.seq (.set 1 (.call 4 (.cons (.v 0) .nil))) (.seq (.box 1) (.seq (.for (.nm 2) (.rng (.i 6)) (.seq (.set 3 (.call 6 (.cons (.v 1) .nil))) (.seq (.set 4 (.call 7 (.cons (.v 1) (.cons (.v 3) .nil)))) (.seq (.iff (.or (.o2 .isnt (.call 12 (.cons (.v 3) (.cons (.v 4) .nil))) (.b true)) (.one (.not (.call 15 (.cons (.v 3) (.cons (.call 13 (.cons (.v 1) (.cons (.v 3) (.cons (.v 4) .nil)))) .nil)))))) (.ret (.b false)) .skip) (.for (.nm 5) (.ite (.lst (.consb (.o2 .mul (.tup (.consb (.o2 .sub (.o2 .idx (.v 3) (.i 1)) (.i 1)) .nil)) (.o2 .idx (.v 3) (.i 0))) (.consb (.o2 .mul (.tup (.consb (.o2 .idx (.v 3) (.i 1)) .nil)) (.o2 .idx (.v 3) (.i 0))) (.consb (.tup .nil) (.consb .n (.consb (.i 0) (.consb (.s [48]) (.consb (.o2 .mul (.lst (.consb (.i 0) .nil)) (.o2 .idx (.v 3) (.i 0))) (.consb (.v 3) .nil)))))))))) (.iff (.not (.call 15 (.cons (.v 3) (.cons (.v 5) .nil)))) (.ret (.b false)) .skip)))))) (.ret (.b true)))))⟩
def f_deeds_in : Fn := ⟨1, 3, (.seq (.set 1 (.o1 .len (.v 0))) (.seq (.for (.nm 2) (.itv 0) (.iff (.o2 .eq (.o2 .idx (.v 2) (.i 0)) (.s [116, 114, 121])) (.set 1 (.o2 .add (.o2 .add (.v 1) (.call 21 (.cons (.o2 .idx (.v 2) (.i 1)) .nil))) (.call 21 (.cons (.o2 .idx (.v 2) (.i 2)) .nil)))) .skip)) (.retv 1)))⟩
def f_law_size : Fn := ⟨1, 3, (.seq (.set 1 (.i 0)) (.seq (.for (.nm 2) (.itv 0) (.seq (.set 1 (.o2 .add (.v 1) (.i 1))) (.iff (.o2 .eq (.o2 .idx (.v 2) (.i 0)) (.s [116, 114, 121])) (.set 1 (.o2 .add (.o2 .add (.v 1) (.call 23 (.cons (.o2 .idx (.v 2) (.i 1)) .nil))) (.call 23 (.cons (.o2 .idx (.v 2) (.i 2)) .nil)))) .skip))) (.retv 1)))⟩
def f_law_plain_deed : Fn := ⟨4, 4, (.seq (.iff (.o2 .lt (.v 2) (.i 4)) (.ret (.tup (.consb (.s [108, 111, 111, 107]) (.consb (.v 3) (.consb (.call 5 (.cons (.v 0) (.cons (.o2 .idx (.v 1) (.i 0)) .nil))) .nil))))) .skip) (.seq (.iff (.o2 .lt (.v 2) (.i 7)) (.ret (.tup (.consb (.s [112, 117, 116]) (.consb (.call 5 (.cons (.v 0) (.cons (.o2 .idx (.v 1) (.i 0)) .nil))) (.consb (.v 3) .nil))))) .skip) (.seq (.iff (.o2 .lt (.v 2) (.i 9)) (.ret (.tup (.consb (.s [115, 101, 116]) (.consb (.v 3) (.consb (.call 5 (.cons (.v 0) (.cons (.o2 .idx (.v 1) (.i 1)) .nil))) .nil))))) .skip) (.seq (.iff (.o2 .lt (.v 2) (.i 11)) (.ret (.tup (.consb (.s [112, 108, 117, 115]) (.consb (.v 3) (.consb (.call 5 (.cons (.v 0) (.cons (.i 4) .nil))) .nil))))) .skip) (.ret (.tup (.consb (.s [108, 101, 97, 112]) (.consb (.v 3) (.consb (.o2 .add (.i 1) (.call 5 (.cons (.v 0) (.cons (.o2 .idx (.lst (.consb (.i 2) (.consb (.i 12) .nil))) (.call 5 (.cons (.v 0) (.cons (.i 2) .nil)))) .nil)))) .nil)))))))))⟩
def f_law_dealing : Fn := ⟨4, 11, (.seq (.set 4 (.lst .nil)) (.seq (.set 5 (.v 2)) (.seq (.for (.nm 6) (.rng (.call 5 (.cons (.v 0) (.cons (.o2 .add (.o2 .min (.i 12) (.v 2)) (.i 1)) .nil)))) (.seq (.set 7 (.call 5 (.cons (.v 0) (.cons (.i 16) .nil)))) (.seq (.set 8 (.call 5 (.cons (.v 0) (.cons (.i 4) .nil)))) (.seq (.box 8) (.iff (.and (.o2 .gt (.v 5) (.i 0)) (.and (.o2 .lt (.o1 .len (.v 4)) (.i 12)) (.one (.o2 .lt (.v 7) (.i 13))))) (.seq (.om .append 4 (.consb (.call 24 (.cons (.v 0) (.cons (.v 1) (.cons (.v 7) (.cons (.v 8) .nil))))) .nil) none) (.set 5 (.o2 .sub (.v 5) (.i 1)))) (.iff (.and (.o2 .gt (.v 5) (.i 0)) (.and (.o2 .lt (.o1 .len (.v 4)) (.i 12)) (.one (.or (.o2 .eq (.v 7) (.i 13)) (.one (.o2 .eq (.v 3) (.i 0))))))) (.seq (.iff (.and (.o2 .gt (.v 5) (.i 1)) (.and (.o2 .lt (.o1 .len (.v 4)) (.i 11)) (.one (.o2 .gt (.call 5 (.cons (.v 0) (.cons (.i 4) .nil))) (.i 0))))) (.seq (.om .append 4 (.consb (.tup (.consb (.s [108, 101, 97, 112]) (.consb (.v 8) (.consb (.i 1) .nil)))) .nil) none) (.set 5 (.o2 .sub (.v 5) (.i 1)))) .skip) (.seq (.om .append 4 (.consb (.tup (.consb (.s [119, 97, 105, 116]) .nil)) .nil) none) (.set 5 (.o2 .sub (.v 5) (.i 1))))) (.iff (.and (.o2 .gt (.v 5) (.i 0)) (.one (.o2 .lt (.o1 .len (.v 4)) (.i 12)))) (.seq (.set 9 (.call 25 (.cons (.v 0) (.cons (.v 1) (.cons (.call 5 (.cons (.v 0) (.cons (.v 5) .nil))) (.cons (.o2 .sub (.v 3) (.i 1)) .nil)))))) (.seq (.set 5 (.o2 .sub (.o2 .sub (.v 5) (.i 1)) (.call 23 (.cons (.v 9) .nil)))) (.seq (.set 10 (.call 25 (.cons (.v 0) (.cons (.v 1) (.cons (.call 5 (.cons (.v 0) (.cons (.o2 .add (.v 5) (.i 1)) .nil))) (.cons (.o2 .sub (.v 3) (.i 1)) .nil)))))) (.seq (.set 5 (.o2 .sub (.v 5) (.call 23 (.cons (.v 10) .nil)))) (.om .append 4 (.consb (.tup (.consb (.s [116, 114, 121]) (.consb (.v 9) (.consb (.v 10) .nil)))) .nil) none))))) .skip))))))) (.ret (.o1 .tuple (.v 4))))))⟩
def f_law_same : Fn := ⟨2, 4, (.seq (.iff (.o2 .is (.v 1) .n) (.ret (.o2 .is (.v 0) .n)) .skip) (.seq (.iff (.o1 (.isi .bool) (.v 1)) (.ret (.and (.o1 (.isi .bool) (.v 0)) (.one (.o2 .eq (.v 0) (.v 1))))) .skip) (.seq (.iff (.o1 (.isi .str) (.v 1)) (.ret (.and (.o1 (.isi .str) (.v 0)) (.one (.o2 .eq (.v 0) (.v 1))))) .skip) (.seq (.iff (.o1 (.isi .int) (.v 1)) (.ret (.and (.o1 (.isi .int) (.v 0)) (.and (.not (.o1 (.isi .bool) (.v 0))) (.one (.o2 .eq (.v 0) (.v 1)))))) .skip) (.seq (.iff (.or (.o2 .ne (.o1 (.isi .tuple) (.v 1)) (.o1 (.isi .tuple) (.v 0))) (.one (.o2 .ne (.o1 (.isi .list) (.v 1)) (.o1 (.isi .list) (.v 0))))) (.ret (.b false)) .skip) (.ret (.and (.o2 .eq (.o1 .len (.v 0)) (.o1 .len (.v 1))) (.one (.o2 .nmem (.b false) (.comp (.tp [2, 3]) (.call 35 (.cons (.v 2) (.cons (.v 3) .nil))) (.zip (.itv 0) (.itv 1)) (.b true)))))))))))⟩
def f_Doing_init : Fn := ⟨3, 3, (.seq (.fset (.v 0) 1 0 (.o2 .idx (.v 1) (.i 1))) (.seq (.fset (.v 0) 1 1 (.v 2)) (.seq (.fset (.v 0) 1 2 .dct) (.seq (.fset (.v 0) 1 3 (.o2 .mul (.lst (.consb (.i 0) .nil)) (.g 10))) (.fset (.v 0) 1 4 .dct)))))⟩
def f_Doing_now : Fn := ⟨1, 3, (.ret (.o1 .tuple (.comp (.tp [1, 2]) (.get2 (.fld (.v 0) 1 2) (.v 1) (.v 2)) (.enu (.ite (.fld (.v 0) 1 1))) (.b true))))⟩
def f_Doing_look : Fn := ⟨3, 3, (.seq (.iff (.o2 .nmem (.v 2) (.fld (.v 0) 1 2)) (.seti (.fld (.v 0) 1 4) (.v 2) (.b true)) .skip) (.seti (.fld (.v 0) 1 3) (.v 1) (.get2 (.fld (.v 0) 1 2) (.v 2) (.o2 .idx (.fld (.v 0) 1 1) (.v 2)))))⟩
def f_Doing_plain : Fn := ⟨2, 5, (.seq (.setT [2, 3, 4] (.v 1)) (.iff (.o2 .eq (.v 2) (.s [108, 111, 111, 107])) (.expr (.meth 39 (.v 0) (.cons (.v 3) (.cons (.v 4) .nil)))) (.iff (.o2 .eq (.v 2) (.s [112, 117, 116])) (.seti (.fld (.v 0) 1 2) (.v 3) (.o2 .idx (.fld (.v 0) 1 3) (.v 4))) (.iff (.o2 .eq (.v 2) (.s [115, 101, 116])) (.seti (.fld (.v 0) 1 3) (.v 3) (.v 4)) (.seti (.fld (.v 0) 1 3) (.v 3) (.o2 .mod (.o2 .add (.o2 .idx (.fld (.v 0) 1 3) (.v 3)) (.o2 .idx (.fld (.v 0) 1 3) (.v 4))) (.fld (.v 0) 1 0)))))))⟩
def f_Doing_waits : Fn := ⟨2, 4, (.seq (.set 2 (.i 0)) (.seq (.whl (.o2 .lt (.v 2) (.o1 .len (.v 1))) (.seq (.set 3 (.o2 .idx (.v 1) (.v 2))) (.seq (.set 2 (.o2 .add (.v 2) (.i 1))) (.seq (.iff (.or (.o2 .eq (.o2 .idx (.v 3) (.i 0)) (.s [119, 97, 105, 116])) (.one (.and (.o2 .eq (.o2 .idx (.v 3) (.i 0)) (.s [116, 114, 121])) (.one (.meth 42 (.v 0) (.cons (.o2 .idx (.v 3) (.i 1)) (.cons (.o2 .idx (.v 3) (.i 2)) .nil))))))) (.ret (.b true)) .skip) (.iff (.o2 .eq (.o2 .idx (.v 3) (.i 0)) (.s [108, 101, 97, 112])) (.set 2 (.o2 .add (.v 2) (.o2 .mul (.o2 .idx (.v 3) (.i 2)) (.o1 .int (.o2 .eq (.o2 .idx (.fld (.v 0) 1 3) (.o2 .idx (.v 3) (.i 1))) (.i 0)))))) (.iff (.o2 .ne (.o2 .idx (.v 3) (.i 0)) (.s [116, 114, 121])) (.expr (.meth 40 (.v 0) (.cons (.v 3) .nil))) .skip)))))) (.ret (.b false))))⟩
def f_Doing_tries_in_vain : Fn := ⟨3, 5, (.seq (.set 3 (.o1 .dict (.fld (.v 0) 1 2))) (.seq (.box 3) (.seq (.set 4 (.o1 .list (.fld (.v 0) 1 3))) (.seq (.box 4) (.seq (.iff (.not (.meth 41 (.v 0) (.cons (.v 1) .nil))) (.ret (.b false)) .skip) (.seq (.fset (.v 0) 1 2 (.v 3)) (.seq (.fset (.v 0) 1 3 (.v 4)) (.ret (.meth 41 (.v 0) (.cons (.v 2) .nil))))))))))⟩
def f_alone : Fn := ⟨3, 4, (.seq (.set 3 (.make 1 (.cons (.v 0) (.cons (.v 2) .nil)))) (.seq (.iff (.meth 41 (.v 3) (.cons (.v 1) .nil)) (.ret (.tup (.consb (.s [119, 97, 105, 116, 115]) (.consb (.o1 .sorted (.fld (.v 3) 1 4)) .nil)))) .skip) (.ret (.tup (.consb (.s [100, 111, 110, 101]) (.consb (.meth 38 (.v 3) .nil) (.consb (.o1 .tuple (.fld (.v 3) 1 3)) .nil)))))))⟩
def f_law_plain : Fn := ⟨3, 6, (.seq (.setT [3, 4, 5] (.v 1)) (.iff (.o2 .eq (.v 3) (.s [108, 111, 111, 107])) (.seq (.iff (.and (.o2 .nmem (.v 5) (.o2 .idx (.v 2) (.s [111, 119, 110]))) (.one (.o2 .nmem (.v 5) (.o2 .idx (.v 2) (.s [108, 111, 111, 107, 101, 100]))))) (.expr (.hm .append (.o2 .idx (.v 2) (.s [108, 111, 111, 107, 101, 100])) (.consb (.v 5) .nil))) .skip) (.seti (.o2 .idx (.v 2) (.s [104, 97, 110, 100, 115])) (.v 4) (.o2 .idx (.o2 .idx (.v 2) (.s [115, 116, 97, 116, 101])) (.v 5)))) (.iff (.o2 .eq (.v 3) (.s [112, 117, 116])) (.seq (.seti (.o2 .idx (.v 2) (.s [115, 116, 97, 116, 101])) (.v 4) (.o2 .idx (.o2 .idx (.v 2) (.s [104, 97, 110, 100, 115])) (.v 5))) (.iff (.o2 .nmem (.v 4) (.o2 .idx (.v 2) (.s [111, 119, 110]))) (.expr (.hm .append (.o2 .idx (.v 2) (.s [111, 119, 110])) (.consb (.v 4) .nil))) .skip)) (.iff (.o2 .eq (.v 3) (.s [115, 101, 116])) (.seti (.o2 .idx (.v 2) (.s [104, 97, 110, 100, 115])) (.v 4) (.v 5)) (.seti (.o2 .idx (.v 2) (.s [104, 97, 110, 100, 115])) (.v 4) (.o2 .mod (.o2 .add (.o2 .idx (.o2 .idx (.v 2) (.s [104, 97, 110, 100, 115])) (.v 4)) (.o2 .idx (.o2 .idx (.v 2) (.s [104, 97, 110, 100, 115])) (.v 5))) (.o2 .idx (.v 0) (.i 1))))))))⟩
def f_law_waits : Fn := ⟨3, 7, (.seq (.set 3 (.i 0)) (.seq (.for (.nm 4) (.itv 1) (.iff (.o2 .gt (.v 3) (.i 0)) (.set 3 (.o2 .sub (.v 3) (.i 1))) (.iff (.o2 .eq (.o2 .idx (.v 4) (.i 0)) (.s [119, 97, 105, 116])) (.ret (.b true)) (.iff (.o2 .eq (.o2 .idx (.v 4) (.i 0)) (.s [108, 101, 97, 112])) (.set 3 (.o2 .mul (.o2 .idx (.v 4) (.i 2)) (.o1 .int (.o2 .eq (.o2 .idx (.o2 .idx (.v 2) (.s [104, 97, 110, 100, 115])) (.o2 .idx (.v 4) (.i 1))) (.i 0))))) (.iff (.o2 .ne (.o2 .idx (.v 4) (.i 0)) (.s [116, 114, 121])) (.expr (.call 44 (.cons (.v 0) (.cons (.v 4) (.cons (.v 2) .nil))))) (.seq (.set 5 (.dctp (.pr (.s [115, 116, 97, 116, 101]) (.o1 .list (.o2 .idx (.v 2) (.s [115, 116, 97, 116, 101]))) (.pr (.s [111, 119, 110]) (.o1 .list (.o2 .idx (.v 2) (.s [111, 119, 110]))) (.pr (.s [104, 97, 110, 100, 115]) (.o1 .list (.o2 .idx (.v 2) (.s [104, 97, 110, 100, 115]))) .nil))))) (.seq (.box 5) (.iff (.call 45 (.cons (.v 0) (.cons (.o2 .idx (.v 4) (.i 1)) (.cons (.v 2) .nil)))) (.seq (.lock (.for (.nm 6) (.itk (.v 5)) (.seti (.v 2) (.v 6) (.o2 .idx (.v 5) (.v 6))))) (.iff (.call 45 (.cons (.v 0) (.cons (.o2 .idx (.v 4) (.i 2)) (.cons (.v 2) .nil)))) (.ret (.b true)) .skip)) .skip)))))))) (.ret (.b false))))⟩
def f_law_alone : Fn := ⟨3, 4, (.seq (.set 3 (.dctp (.pr (.s [115, 116, 97, 116, 101]) (.o1 .list (.v 2)) (.pr (.s [111, 119, 110]) (.lst .nil) (.pr (.s [104, 97, 110, 100, 115]) (.lst (.consb (.i 0) (.consb (.i 0) (.consb (.i 0) (.consb (.i 0) .nil))))) (.pr (.s [108, 111, 111, 107, 101, 100]) (.lst .nil) .nil)))))) (.seq (.box 3) (.seq (.iff (.call 45 (.cons (.v 0) (.cons (.v 1) (.cons (.v 3) .nil)))) (.ret (.tup (.consb (.s [119, 97, 105, 116, 115]) (.consb (.o1 .sorted (.o2 .idx (.v 3) (.s [108, 111, 111, 107, 101, 100]))) .nil)))) .skip) (.ret (.tup (.consb (.s [100, 111, 110, 101]) (.consb (.o1 .tuple (.o2 .idx (.v 3) (.s [115, 116, 97, 116, 101]))) (.consb (.o1 .tuple (.o2 .idx (.v 3) (.s [104, 97, 110, 100, 115]))) .nil))))))))⟩
def f_law_5 : Fn := ⟨1, 9, (.seq (.set 1 (.call 4 (.cons (.v 0) .nil))) (.seq (.box 1) (.seq (.set 2 (.call 6 (.cons (.v 1) .nil))) (.seq (.for (.nm 3) (.rng (.i 5)) (.seq (.set 4 (.call 25 (.cons (.v 1) (.cons (.v 2) (.cons (.i 12) (.cons (.i 0) .nil)))))) (.seq (.set 5 (.call 7 (.cons (.v 1) (.cons (.v 2) .nil)))) (.seq (.set 6 (.call 46 (.cons (.v 2) (.cons (.v 4) (.cons (.v 5) .nil))))) (.for (.nm 7) (.rng (.i 2)) (.seq (.set 8 (.call 43 (.cons (.v 2) (.cons (.v 4) (.cons (.v 5) .nil))))) (.seq (.iff (.not (.call 35 (.cons (.v 8) (.cons (.v 6) .nil)))) (.ret (.b false)) .skip) (.iff (.o2 .eq (.o2 .idx (.v 8) (.i 0)) (.s [119, 97, 105, 116, 115])) (.expr (.hm .append (.o2 .idx (.v 8) (.i 1)) (.consb (.i 7) .nil))) .skip)))))))) (.ret (.b true))))))⟩
def f_in_row : Fn := ⟨4, 7, (.seq (.for (.tp [4, 5]) (.enu (.itv 3)) (.seq (.set 6 (.call 43 (.cons (.v 0) (.cons (.o2 .idx (.v 1) (.v 5)) (.cons (.v 2) .nil))))) (.seq (.iff (.o2 .eq (.o2 .idx (.v 6) (.i 0)) (.s [119, 97, 105, 116, 115])) (.ret (.tup (.consb (.s [119, 97, 105, 116, 115]) (.consb (.v 4) (.consb (.o2 .idx (.v 6) (.i 1)) .nil))))) .skip) (.seq (.set 2 (.o2 .idx (.v 6) (.i 1))) (.seq (.box 2) .skip))))) (.ret (.tup (.consb (.s [100, 111, 110, 101]) (.consb (.v 2) .nil)))))⟩
def f_next_rows : Fn := ⟨3, 9, (.seq (.setT [3, 4] (.v 2)) (.seq (.set 5 (.lst .nil)) (.seq (.for (.tp [6, 7]) (.enu (.itv 1)) (.iff (.o2 .nmem (.v 6) (.v 3)) (.seq (.set 8 (.call 43 (.cons (.v 0) (.cons (.v 7) (.cons (.v 4) .nil))))) (.iff (.o2 .eq (.o2 .idx (.v 8) (.i 0)) (.s [100, 111, 110, 101])) (.om .append 5 (.consb (.tup (.consb (.v 6) (.consb (.tup (.consb (.o1 .tuple (.o1 .sorted (.o2 .add (.v 3) (.tup (.consb (.v 6) .nil))))) (.consb (.o2 .idx (.v 8) (.i 1)) .nil))) .nil))) .nil) none) .skip)) .skip)) (.retv 5))))⟩
def f_order_to_2 : Fn := ⟨2, 4, (.seq (.set 2 (.lst .nil)) (.seq (.whl (.o2 .isnt (.o2 .idx (.v 0) (.v 1)) .n) (.seq (.setT [1, 3] (.o2 .idx (.v 0) (.v 1))) (.om .append 2 (.consb (.v 3) .nil) none))) (.ret (.rev (.v 2)))))⟩
def f_all_rows : Fn := ⟨3, 9, (.seq (.set 3 (.tup (.consb (.tup .nil) (.consb (.v 2) .nil)))) (.seq (.set 4 (.dctn1 (.v 3) .n)) (.seq (.set 5 (.lst (.consb (.v 3) .nil))) (.seq (.set 6 (.i 0)) (.seq (.whl (.o2 .lt (.v 6) (.o1 .len (.v 5))) (.seq (.for (.tp [7, 8]) (.ite (.call 329 (.cons (.v 0) (.cons (.v 1) (.cons (.o2 .idx (.v 5) (.v 6)) .nil))))) (.iff (.o2 .nmem (.v 8) (.v 4)) (.seq (.seti (.v 4) (.v 8) (.tup (.consb (.o2 .idx (.v 5) (.v 6)) (.consb (.v 7) .nil)))) (.om .append 5 (.consb (.v 8) .nil) none)) .skip)) (.set 6 (.o2 .add (.v 6) (.i 1))))) (.retv 4))))))⟩
def f_all_done : Fn := ⟨3, 5, (.seq (.set 3 (.call 331 (.cons (.v 0) (.cons (.v 2) (.cons (.v 1) .nil))))) (.seq (.lockN (.for (.nm 4) (.itkn (.v 3)) (.iff (.o2 .eq (.o1 .len (.o2 .idx (.v 4) (.i 0))) (.o1 .len (.v 2))) (.ret (.tup (.consb (.s [97, 108, 108]) (.consb (.call 330 (.cons (.v 3) (.cons (.v 4) .nil))) .nil)))) .skip))) (.ret (.tup (.consb (.s [110, 101, 118, 101, 114]) (.consb (.o1 .listDn (.v 3)) .nil))))))⟩
def f_law_keen : Fn := ⟨2, 8, (.seq (.set 2 (.call 5 (.cons (.v 0) (.cons (.o2 .idx (.v 1) (.i 0)) .nil)))) (.seq (.box 2) (.seq (.set 3 (.call 5 (.cons (.v 0) (.cons (.o2 .idx (.v 1) (.i 0)) .nil)))) (.seq (.box 3) (.seq (.set 4 (.call 5 (.cons (.v 0) (.cons (.i 5) .nil)))) (.seq (.set 5 (.tup (.consb (.tup (.consb (.s [108, 111, 111, 107]) (.consb (.i 0) (.consb (.v 2) .nil)))) (.consb (.tup (.consb (.s [108, 101, 97, 112]) (.consb (.i 0) (.consb (.i 1) .nil)))) (.consb (.tup (.consb (.s [119, 97, 105, 116]) .nil)) .nil))))) (.seq (.iff (.o2 .eq (.v 4) (.i 0)) (.set 5 (.tup (.consb (.tup (.consb (.s [108, 111, 111, 107]) (.consb (.i 0) (.consb (.v 2) .nil)))) (.consb (.tup (.consb (.s [115, 101, 116]) (.consb (.i 1) (.consb (.i 1) .nil)))) (.consb (.tup (.consb (.s [108, 101, 97, 112]) (.consb (.i 0) (.consb (.i 1) .nil)))) (.consb (.tup (.consb (.s [108, 101, 97, 112]) (.consb (.i 2) (.consb (.i 1) .nil)))) (.consb (.tup (.consb (.s [119, 97, 105, 116]) .nil)) .nil))))))) .skip) (.seq (.iff (.o2 .eq (.v 4) (.i 1)) (.seq (.set 6 (.tup (.consb (.tup (.consb (.s [108, 111, 111, 107]) (.consb (.i 0) (.consb (.v 3) .nil)))) (.consb (.tup (.consb (.s [108, 101, 97, 112]) (.consb (.i 0) (.consb (.i 1) .nil)))) (.consb (.tup (.consb (.s [119, 97, 105, 116]) .nil)) .nil))))) (.set 5 (.tup (.consb (.tup (.consb (.s [108, 111, 111, 107]) (.consb (.i 0) (.consb (.v 2) .nil)))) (.consb (.tup (.consb (.s [116, 114, 121]) (.consb (.tup (.consb (.tup (.consb (.s [108, 101, 97, 112]) (.consb (.i 0) (.consb (.i 1) .nil)))) (.consb (.tup (.consb (.s [108, 101, 97, 112]) (.consb (.i 2) (.consb (.i 1) .nil)))) (.consb (.tup (.consb (.s [119, 97, 105, 116]) .nil)) .nil)))) (.consb (.v 6) .nil)))) .nil))))) .skip) (.seq (.set 7 (.o2 .idx (.lst (.consb (.v 2) (.consb (.v 3) .nil))) (.call 5 (.cons (.v 0) (.cons (.i 2) .nil))))) (.seq (.box 7) (.ret (.o2 .add (.v 5) (.tup (.consb (.tup (.consb (.s [115, 101, 116]) (.consb (.i 3) (.consb (.call 5 (.cons (.v 0) (.cons (.i 2) .nil))) .nil)))) (.consb (.tup (.consb (.s [112, 117, 116]) (.consb (.v 7) (.consb (.i 3) .nil)))) .nil)))))))))))))))⟩
def f_law_some_dealings : Fn := ⟨3, 6, (.seq (.set 3 (.lst .nil)) (.seq (.set 4 (.o2 .add (.i 1) (.call 5 (.cons (.v 0) (.cons (.v 2) .nil))))) (.seq (.for (.nm 5) (.rng (.v 4)) (.iff (.and (.o2 .lt (.v 4) (.i 5)) (.one (.o2 .eq (.call 5 (.cons (.v 0) (.cons (.i 4) .nil))) (.i 0)))) (.om .append 3 (.consb (.call 25 (.cons (.v 0) (.cons (.v 1) (.cons (.i 10) (.cons (.i 2) .nil))))) .nil) none) (.om .append 3 (.consb (.call 333 (.cons (.v 0) (.cons (.v 1) .nil))) .nil) none))) (.retv 3))))⟩
def f_law_few_state : Fn := ⟨2, 3, (.ret (.o1 .tuple (.comp (.nm 2) (.call 5 (.cons (.v 0) (.cons (.o2 .idx (.lst (.consb (.i 2) (.consb (.o2 .idx (.v 1) (.i 1)) .nil))) (.o1 .int (.o2 .eq (.call 5 (.cons (.v 0) (.cons (.i 4) .nil))) (.i 0)))) .nil))) (.rng (.o2 .idx (.v 1) (.i 0))) (.b true))))⟩
def f_law_next_3 : Fn := ⟨3, 7, (.seq (.set 3 (.lst .nil)) (.seq (.for (.tp [4, 5]) (.enu (.itv 1)) (.iff (.o2 .nmem (.v 4) (.o2 .idx (.v 2) (.i 0))) (.seq (.set 6 (.call 46 (.cons (.v 0) (.cons (.v 5) (.cons (.o2 .idx (.v 2) (.i 1)) .nil))))) (.iff (.o2 .eq (.o2 .idx (.v 6) (.i 0)) (.s [100, 111, 110, 101])) (.om .append 3 (.consb (.tup (.consb (.v 4) (.consb (.tup (.consb (.o1 .tuple (.o1 .sorted (.o2 .add (.o2 .idx (.v 2) (.i 0)) (.tup (.consb (.v 4) .nil))))) (.consb (.o2 .idx (.v 6) (.i 1)) .nil))) .nil))) .nil) none) .skip)) .skip)) (.retv 3)))⟩
def f_law_rows : Fn := ⟨3, 8, (.seq (.set 3 (.lst (.consb (.tup (.consb (.tup .nil) (.consb (.v 1) .nil))) .nil))) (.seq (.set 4 (.dctn1 (.o2 .idx (.v 3) (.i 0)) (.lst .nil))) (.seq (.set 5 (.i 0)) (.seq (.whl (.o2 .lt (.v 5) (.o1 .len (.v 3))) (.seq (.for (.tp [6, 7]) (.ite (.call 336 (.cons (.v 0) (.cons (.v 2) (.cons (.o2 .idx (.v 3) (.v 5)) .nil))))) (.iff (.o2 .nmem (.v 7) (.v 4)) (.seq (.seti (.v 4) (.v 7) (.o2 .add (.o2 .idx (.v 4) (.o2 .idx (.v 3) (.v 5))) (.lst (.consb (.v 6) .nil)))) (.om .append 3 (.consb (.v 7) .nil) none)) .skip)) (.set 5 (.o2 .add (.v 5) (.i 1))))) (.retv 4)))))⟩
def f_law_goes_along : Fn := ⟨4, 6, (.seq (.for (.nm 4) (.itv 3) (.seq (.set 5 (.call 46 (.cons (.v 0) (.cons (.o2 .idx (.v 1) (.v 4)) (.cons (.v 2) .nil))))) (.seq (.iff (.o2 .ne (.o2 .idx (.v 5) (.i 0)) (.s [100, 111, 110, 101])) (.ret (.b false)) .skip) (.set 2 (.o2 .idx (.v 5) (.i 1)))))) (.ret (.b true)))⟩
def f_law_is_row_3 : Fn := ⟨1, 2, (.ret (.o2 .nmem (.b false) (.comp (.nm 1) (.and (.o1 (.isi .int) (.v 1)) (.one (.not (.o1 (.isi .bool) (.v 1))))) (.itv 0) (.b true))))⟩
def f_law_50 : Fn := ⟨1, 11, (.seq (.set 1 (.call 4 (.cons (.v 0) .nil))) (.seq (.box 1) (.seq (.set 2 (.call 6 (.cons (.v 1) .nil))) (.seq (.for (.nm 3) (.rng (.i 2)) (.seq (.set 4 (.call 335 (.cons (.v 1) (.cons (.v 2) .nil)))) (.seq (.set 5 (.call 334 (.cons (.v 1) (.cons (.v 2) (.cons (.i 6) .nil))))) (.seq (.set 6 (.o2 .ne (.comp (.nm 7) (.v 7) (.itkn (.lockV (.call 337 (.cons (.v 2) (.cons (.v 4) (.cons (.v 5) .nil)))))) (.o2 .eq (.o1 .len (.o2 .idx (.v 7) (.i 0))) (.o1 .len (.v 5)))) (.lst .nil))) (.seq (.set 8 (.o1 .list (.v 5))) (.for (.nm 9) (.rng (.i 2)) (.seq (.set 10 (.call 332 (.cons (.v 2) (.cons (.v 4) (.cons (.v 8) .nil))))) (.seq (.iff (.or (.not (.o1 (.isi .tuple) (.v 10))) (.or (.o2 .ne (.o1 .len (.v 10)) (.i 2)) (.one (.o2 .ne (.v 8) (.v 5))))) (.ret (.b false)) .skip) (.seq (.iff (.not (.o1 (.isi .list) (.o2 .idx (.v 10) (.i 1)))) (.ret (.b false)) .skip) (.seq (.iff (.or (.o2 .ne (.o2 .idx (.v 10) (.i 0)) (.o2 .idx (.lst (.consb (.s [110, 101, 118, 101, 114]) (.consb (.s [97, 108, 108]) .nil))) (.o1 .int (.v 6)))) (.one (.not (.o1 (.isi .str) (.o2 .idx (.v 10) (.i 0)))))) (.ret (.b false)) .skip) (.seq (.iff (.and (.v 6) (.one (.or (.not (.call 339 (.cons (.o2 .idx (.v 10) (.i 1)) .nil))) (.one (.o2 .ne (.o1 .sorted (.o2 .idx (.v 10) (.i 1))) (.lrg (.o1 .len (.v 5)))))))) (.ret (.b false)) .skip) (.seq (.iff (.and (.v 6) (.one (.not (.call 338 (.cons (.v 2) (.cons (.v 5) (.cons (.v 4) (.cons (.o2 .idx (.v 10) (.i 1)) .nil)))))))) (.ret (.b false)) .skip) (.expr (.hm .append (.o2 .idx (.v 10) (.i 1)) (.consb (.i 0) .nil))))))))))))))) (.ret (.b true))))))⟩
def f_is_stuck : Fn := ⟨3, 3, (.ret (.and (.o2 .lt (.o1 .len (.o2 .idx (.v 2) (.i 0))) (.o1 .len (.v 1))) (.one (.o2 .eq (.call 329 (.cons (.v 0) (.cons (.v 1) (.cons (.v 2) .nil)))) (.lst .nil)))))⟩
def f_stuck : Fn := ⟨3, 5, (.seq (.set 3 (.call 331 (.cons (.v 0) (.cons (.v 2) (.cons (.v 1) .nil))))) (.seq (.lockN (.for (.nm 4) (.itkn (.v 3)) (.iff (.call 341 (.cons (.v 0) (.cons (.v 2) (.cons (.v 4) .nil)))) (.ret (.tup (.consb (.s [115, 116, 117, 99, 107]) (.consb (.call 330 (.cons (.v 3) (.cons (.v 4) .nil))) .nil)))) .skip))) (.ret (.tup (.consb (.s [102, 114, 101, 101]) (.consb (.o1 .listDn (.v 3)) .nil))))))⟩
def f_law_fewest : Fn := ⟨3, 6, (.seq (.set 3 (.call 337 (.cons (.v 0) (.cons (.v 1) (.cons (.v 2) .nil))))) (.seq (.lockN (.set 4 (.comp (.nm 5) (.o1 .len (.o2 .idx (.v 5) (.i 0))) (.itkn (.v 3)) (.and (.o2 .lt (.o1 .len (.o2 .idx (.v 5) (.i 0))) (.o1 .len (.v 2))) (.one (.o2 .eq (.call 336 (.cons (.v 0) (.cons (.v 2) (.cons (.v 5) .nil)))) (.lst .nil))))))) (.ret (.o1 .minl (.o2 .add (.v 4) (.lst (.consb (.i 7) .nil)))))))⟩
def f_law_is_stuck : Fn := ⟨4, 7, (.seq (.set 4 (.tup .nil)) (.seq (.for (.nm 5) (.itv 3) (.seq (.iff (.or (.not (.o1 (.isi .int) (.v 5))) (.or (.o1 (.isi .bool) (.v 5)) (.one (.not (.chain .le .lt (.i 0) (.v 5) (.o1 .len (.v 1))))))) (.ret (.b false)) .skip) (.seq (.set 6 (.call 46 (.cons (.v 0) (.cons (.o2 .idx (.v 1) (.v 5)) (.cons (.v 2) .nil))))) (.seq (.iff (.or (.o2 .mem (.v 5) (.v 4)) (.one (.o2 .ne (.o2 .idx (.v 6) (.i 0)) (.s [100, 111, 110, 101])))) (.ret (.b false)) .skip) (.seq (.set 2 (.o2 .idx (.v 6) (.i 1))) (.seq (.box 2) (.seq (.set 4 (.o2 .add (.v 4) (.tup (.consb (.v 5) .nil)))) (.seq (.box 4) .skip)))))))) (.ret (.and (.o2 .lt (.o1 .len (.v 4)) (.o1 .len (.v 1))) (.one (.o2 .eq (.call 336 (.cons (.v 0) (.cons (.v 1) (.cons (.tup (.consb (.v 4) (.consb (.v 2) .nil))) .nil)))) (.lst .nil)))))))⟩
def f_law_51 : Fn := ⟨1, 10, (.seq (.set 1 (.call 4 (.cons (.v 0) .nil))) (.seq (.box 1) (.seq (.set 2 (.call 6 (.cons (.v 1) .nil))) (.seq (.for (.nm 3) (.rng (.i 2)) (.seq (.set 4 (.call 335 (.cons (.v 1) (.cons (.v 2) .nil)))) (.seq (.set 5 (.call 334 (.cons (.v 1) (.cons (.v 2) (.cons (.i 6) .nil))))) (.seq (.set 6 (.call 343 (.cons (.v 2) (.cons (.v 4) (.cons (.v 5) .nil))))) (.for (.nm 7) (.rng (.i 2)) (.seq (.set 8 (.o1 .list (.v 5))) (.seq (.set 9 (.call 342 (.cons (.v 2) (.cons (.v 4) (.cons (.v 8) .nil))))) (.seq (.iff (.or (.not (.o1 (.isi .tuple) (.v 9))) (.or (.o2 .ne (.o1 .len (.v 9)) (.i 2)) (.one (.o2 .ne (.v 8) (.v 5))))) (.ret (.b false)) .skip) (.seq (.iff (.not (.o1 (.isi .list) (.o2 .idx (.v 9) (.i 1)))) (.ret (.b false)) .skip) (.seq (.iff (.or (.o2 .ne (.o2 .idx (.v 9) (.i 0)) (.o2 .idx (.lst (.consb (.s [102, 114, 101, 101]) (.consb (.s [115, 116, 117, 99, 107]) .nil))) (.o1 .int (.o2 .lt (.v 6) (.i 7))))) (.one (.not (.o1 (.isi .str) (.o2 .idx (.v 9) (.i 0)))))) (.ret (.b false)) .skip) (.seq (.iff (.and (.o2 .lt (.v 6) (.i 7)) (.one (.o2 .ne (.o1 .len (.o2 .idx (.v 9) (.i 1))) (.v 6)))) (.ret (.b false)) .skip) (.seq (.iff (.and (.o2 .lt (.v 6) (.i 7)) (.one (.not (.call 344 (.cons (.v 2) (.cons (.v 5) (.cons (.v 4) (.cons (.o2 .idx (.v 9) (.i 1)) .nil)))))))) (.ret (.b false)) .skip) (.expr (.hm .append (.o2 .idx (.v 9) (.i 1)) (.consb (.i 0) .nil))))))))))))))) (.ret (.b true))))))⟩
end LW
namespace LW
open PySem L2 PySem.Spec PyProof.Rows DL
local macro_rules | `(tactic| walk_at "dl_go") => `(tactic| repeat (first | refine ⟨_, rfl, ?_⟩ | refine ⟨_, by assumption, ?_⟩ | refine ⟨by decide, ?_⟩ | refine ⟨.inl (.inl (by decide)), ?_⟩ | refine ⟨.inl (.inr (by decide)), ?_⟩))
def tkZ : R := (.seq (.set 7 (.o2 .mod (.o2 .idx (.v 0) (.i 2)) (.v 1))) (.seq (.seti (.v 0) (.i 2) (.o2 .fdiv (.o2 .idx (.v 0) (.i 2)) (.v 1))) (.retv 7)))
def tkA : R := (.seq (.set 4 (.o2 .mod (.o2 .mul (.o2 .add (.o2 .add (.o2 .mod (.v 3) (.i 998244353)) (.o2 .mul (.i 53) (.v 2))) (.i 1)) (.i 48271)) (.i 2147483647))) (.seq (.set 5 (.o2 .mod (.o2 .add (.o2 .add (.o2 .mul (.v 4) (.v 4)) (.o2 .mul (.i 69621) (.v 2))) (.i 5)) (.i 1000000007))) (.seq (.set 6 (.o2 .mod (.o2 .add (.o2 .mul (.v 5) (.v 5)) (.v 4)) (.i 998244353))) (.seq (.seti (.v 0) (.i 2) (.o2 .add (.o2 .fdiv (.o2 .add (.o2 .mul (.v 5) (.i 998244353)) (.v 6)) (.i 16)) (.i 1))) (.iff (.o2 .ge (.v 3) (.o2 .pow (.i 10) (.i 18))) (.seti (.v 0) (.i 2) (.o2 .fdiv (.v 3) (.o2 .pow (.i 10) (.i 18)))) .skip)))))
theorem su_su (S : Hs) (a : Addr) (o o' : O) : su (su S a o) a o' = su S a o' := by
  funext b
  unfold su
  split <;> rfl
structure PenAt (S : Hs) (p q : Addr) (ns : List Int) (k r : Int) : Prop where
  hp : S p = some (.lst [.ref q, .int k, .int r])
  hq : S q = some (.lst (ns.map .int))
  ne : q ≠ p
  hk : 0 ≤ k
  hr : 0 ≤ r
theorem PenAt.up {S : Hs} {p q : Addr} {ns : List Int} {k r k' r' : Int} (h : PenAt S p q ns k r) (hk : 0 ≤ k') (hr : 0 ≤ r') : PenAt (su S p (.lst [.ref q, .int k', .int r'])) p q ns k' r' := ⟨su_same, by rw [su_ne h.ne]; exact h.hq, h.ne, hk, hr⟩
theorem get_ints {ns : List Int} {i : Int} (h0 : 0 ≤ i) (h1 : i < ns.length) : ∃ c, getI (ns.map D.int) i = some (.int c) := by
  obtain ⟨n, rfl⟩ := Int.eq_ofNat_of_zero_le h0
  have hn : n < ns.length := by omega
  refine ⟨ns[n], ?_⟩
  show (ns.map D.int)[n]? = _
  rw [List.getElem?_map, List.getElem?_eq_getElem hn]
  rfl
theorem take_ok {T : Tbl} (hT : T.fn 5 = some f_law_take) (n : Nat) {S : Hs} {p q : Addr} {ns : List Int} {k r m : Int} {Q : VK2} (h : PenAt S p q ns k r) (hm : 0 < m) (hm2 : m.natAbs.log2 < 9000)
    (w : ∀ (f k' r' : Int), 0 ≤ f → f < m → 0 ≤ k' → 0 ≤ r' → Q (.d (.int f)) (su S p (.lst [.ref q, .int k', .int r']))) : cal T (n + 1) 5 [.d (.ref p), .d (.int m)] S Q := by
  have hp := h.hp
  refine ⟨_, hT, rfl, rfl, ?_⟩
  -- what is left behind the refill
  have tail : ∀ (k' r' : Int) (σ : Sl), 0 ≤ k' → 0 ≤ r' → σ[0]? = some (some (.d (.ref p))) → σ[1]? = some (some (.d (.int m))) → 7 < σ.length → ∀ S', S' = su S p (.lst [.ref q, .int k', .int r']) →
      wpS T (cal T n) (.seq (.set 7 (.o2 .mod (.o2 .idx (.v 0) (.i 2)) (.v 1))) (.seq (.seti (.v 0) (.i 2) (.o2 .fdiv (.o2 .idx (.v 0) (.i 2)) (.v 1))) (.retv 7))) σ S' (fun _ S' => Q (.d .non) S') Q (fun _ _ => False) (fun _ _ => False) := by
    intro k' r' σ hk hr e0 e1 hl S' eS
    have hS : S' p = some (.lst [.ref q, .int k', .int r']) := by rw [eS]; exact su_same
    have e0' : (σ.set 7 (some (.d (.int (r' % m)))))[0]? = some (some (.d (.ref p))) := by rw [List.getElem?_set_ne (by decide)]; exact e0
    have e1' : (σ.set 7 (some (.d (.int (r' % m)))))[1]? = some (some (.d (.int m))) := by rw [List.getElem?_set_ne (by decide)]; exact e1
    have e7' : (σ.set 7 (some (.d (.int (r' % m)))))[7]? = some (some (.d (.int (r' % m)))) := by rw [List.getElem?_set_self hl]
    refine ⟨_, e0, ⟨_, hS, _, rfl, ⟨_, e1, hm, ?_⟩⟩⟩
    refine ⟨_, e0', ⟨_, hS, _, rfl, ⟨_, e1', ⟨hm, hm2⟩, ?_⟩⟩⟩
    refine ⟨_, e0', ⟨_, _, _, rfl, hS, rfl, ⟨(show 2 < 3 by decide), ⟨_, rfl, ?_⟩⟩⟩⟩
    refine ⟨_, e7', ?_⟩
    show Q _ _
    rw [eS, su_su]
    exact w _ _ _ (Int.emod_nonneg _ (Int.ne_of_gt hm)) (Int.emod_lt_of_pos _ hm) hk (Int.ediv_nonneg hr (Int.le_of_lt hm))
  have hk := h.hk
  have hr := h.hr
  refine ⟨_, rfl, ⟨_, hp, _, rfl, ⟨rfl, rfl, ?_⟩⟩⟩
  refine Br.mk (fun hb => ?_) (fun hb => ?_)
  · refine ⟨_, rfl, ⟨_, hp, _, rfl, ?_⟩⟩
    refine ⟨_, rfl, ⟨_, rfl, ⟨_, _, _, rfl, hp, rfl, ⟨(show 1 < 3 by decide), ⟨_, rfl, ?_⟩⟩⟩⟩⟩
    have h1 := h.up (k' := k + 1) (r' := r) (by omega) hr
    have hp1 := h1.hp
    have hq1 := h1.hq
    have mid : ∀ (c : Int), wpS T (cal T n) tkA [some (.d (.ref p)), some (.d (.int m)), some (.d (.int k)), some (.d (.int c)), none, none, none, none] (su S p (.lst [.ref q, .int (k + 1), .int r]))
        (fun σ' S' => wpS T (cal T n) tkZ σ' S' (fun _ S' => Q (.d .non) S') Q (fun _ _ => False) (fun _ _ => False)) Q (fun _ _ => False) (fun _ _ => False) := by
      intro c
      have a1 : 0 ≤ (c % 998244353 + 53 * k + 1) * 48271 % 2147483647 := Int.emod_nonneg _ (by decide)
      have a2 : (c % 998244353 + 53 * k + 1) * 48271 % 2147483647 < 2147483647 := Int.emod_lt_of_pos _ (by decide)
      generalize hone : (c % 998244353 + 53 * k + 1) * 48271 % 2147483647 = one at a1 a2
      refine ⟨_, rfl, ⟨by decide, ⟨_, rfl, ⟨.inl (.inl (by decide)), ⟨.inl (.inr (by decide)), ⟨by decide, ?_⟩⟩⟩⟩⟩⟩
      show wpS T (cal T n) _ [some (.d (.ref p)), some (.d (.int m)), some (.d (.int k)), some (.d (.int c)), some (.d (.int ((c % 998244353 + 53 * k + 1) * 48271 % 2147483647))), none, none, none] _ _ _ _ _
      rw [hone]
      have b1 : 0 ≤ (one * one + 69621 * k + 5) % 1000000007 := Int.emod_nonneg _ (by decide)
      have b2 : (one * one + 69621 * k + 5) % 1000000007 < 1000000007 := Int.emod_lt_of_pos _ (by decide)
      generalize htwo : (one * one + 69621 * k + 5) % 1000000007 = two at b1 b2
      refine ⟨_, rfl, ⟨_, rfl, ⟨.inl (.inl ⟨by omega, by omega⟩), ⟨_, rfl, ⟨.inl (.inl (by decide)), ⟨by decide, ?_⟩⟩⟩⟩⟩⟩
      show wpS T (cal T n) _ [some (.d (.ref p)), some (.d (.int m)), some (.d (.int k)), some (.d (.int c)), some (.d (.int one)), some (.d (.int ((one * one + 69621 * k + 5) % 1000000007))), none, none] _ _ _ _ _
      rw [htwo]
      have c1 : 0 ≤ (two * two + one) % 998244353 := Int.emod_nonneg _ (by decide)
      generalize hthr : (two * two + one) % 998244353 = thr at c1
      refine ⟨_, rfl, ⟨_, rfl, ⟨.inl (.inl ⟨by omega, by omega⟩), ⟨_, rfl, ⟨by decide, ?_⟩⟩⟩⟩⟩
      show wpS T (cal T n) _ [some (.d (.ref p)), some (.d (.int m)), some (.d (.int k)), some (.d (.int c)), some (.d (.int one)), some (.d (.int two)), some (.d (.int ((two * two + one) % 998244353))), none] _ _ _ _ _
      rw [hthr]
      have d1 : 0 ≤ (two * 998244353 + thr) / 16 + 1 := by
        have : 0 ≤ (two * 998244353 + thr) / 16 := Int.ediv_nonneg (by omega) (by decide)
        omega
      refine ⟨_, rfl, ⟨.inl (.inr (by decide)), ⟨_, rfl, ⟨⟨by decide, by decide⟩, ⟨_, rfl, ⟨_, _, _, rfl, hp1, rfl, ⟨(show 2 < 3 by decide), ⟨_, rfl, ?_⟩⟩⟩⟩⟩⟩⟩⟩
      show wpS T (cal T n) _ _ (su (su S p (.lst [.ref q, .int (k + 1), .int r])) p (.lst [.ref q, .int (k + 1), .int ((two * 998244353 + thr) / 16 + 1)])) _ _ _ _
      rw [su_su]
      refine ⟨_, rfl, ⟨⟨by decide, by decide, by decide⟩, Br.mk (fun hb2 => ?_) (fun hb2 => ?_)⟩⟩
      · refine ⟨_, rfl, ⟨⟨by decide, by decide, by decide⟩, ⟨⟨by decide, by decide⟩, ⟨_, rfl, ⟨_, _, _, rfl, su_same, rfl, ⟨(show 2 < 3 by decide), ⟨_, rfl, ?_⟩⟩⟩⟩⟩⟩⟩
        show wpS T (cal T n) _ _ (su (su S p (.lst [.ref q, .int (k + 1), .int ((two * 998244353 + thr) / 16 + 1)])) p (.lst [.ref q, .int (k + 1), .int (c / 10 ^ 18)])) _ _ _ _
        rw [su_su]
        have hb2 : decide ((10 : Int) ^ 18 ≤ c) = true := hb2
        have hc : (10 : Int) ^ 18 ≤ c := of_decide_eq_true hb2
        exact tail (k + 1) (c / 10 ^ 18) _ (by omega) (Int.ediv_nonneg (by omega) (by decide)) rfl rfl (by show 7 < 8; decide) _ rfl
      · exact tail (k + 1) _ _ (by omega) d1 rfl rfl (by show 7 < 8; decide) _ rfl
    -- the cell
    refine ⟨_, rfl, ⟨_, rfl, ⟨_, hp1, _, rfl, ⟨_, hq1, _, rfl, Br.mk (fun hb2 => ?_) (fun hb2 => ?_)⟩⟩⟩⟩
    · have hb2 : decide (k < ((ns.map D.int).length : Int)) = true := hb2
      have hlt : k < (ns.length : Int) := by have := of_decide_eq_true hb2; simpa using this
      obtain ⟨c, hc⟩ := get_ints hk hlt
      exact ⟨_, rfl, ⟨_, hp1, _, rfl, ⟨_, rfl, ⟨_, hq1, _, hc, mid c⟩⟩⟩⟩
    · refine ⟨_, rfl, ⟨_, hp1, _, rfl, ⟨_, hq1, _, rfl, Br.mk (fun hb3 => ?_) (fun hb3 => mid 0)⟩⟩⟩
      have hb3 : decide (0 < ((ns.map D.int).length : Int)) = true := hb3
      have hlt : 0 < (ns.length : Int) := by have := of_decide_eq_true hb3; simpa using this
      have hl2 : (((ns.map D.int).length : Nat) : Int) = (ns.length : Int) := by simp
      obtain ⟨c, hc⟩ := get_ints (ns := ns) (i := k * 3 % (ns.length : Int)) (Int.emod_nonneg _ (by omega)) (Int.emod_lt_of_pos _ hlt)
      rw [← hl2] at hc
      exact ⟨_, rfl, ⟨_, hp1, _, rfl, ⟨_, rfl, ⟨.inl (.inr (by decide)), ⟨_, rfl, ⟨_, hp1, _, rfl, ⟨_, hq1, _, rfl, ⟨of_decide_eq_true hb3, ⟨_, hq1, _, hc, ⟨by decide, ⟨_, rfl, ⟨.inl (.inl (by decide)), mid _⟩⟩⟩⟩⟩⟩⟩⟩⟩⟩⟩⟩
  · have e : su S p (.lst [.ref q, .int k, .int r]) = S := by
      funext b
      unfold su
      split
      · rename_i z; rw [z]; exact hp.symm
      · rfl
    exact tail k r _ hk hr rfl rfl (by show 7 < 8; decide) S e.symm
end LW

namespace LW
open PySem L2 PySem.Spec PyProof.Rows DL
theorem cut_map {α β : Type} (f : α → β) (xs : List α) (lo hi : Option Int) : cutI (xs.map f) lo hi = (cutI xs lo hi).map f := by
  unfold cutI
  simp [List.map_drop, List.map_take]
theorem pen_ok {T : Tbl} (hT : T.fn 4 = some f_law_pen) (n : Nat) {S : Hs} {ns : List Int} {Q : VK2} (w : ∀ q, S q = none → ∀ ns' : List Int, Q (.vl [.ref q, .int 0, .int 0]) (su S q (.lst (ns'.map .int)))) : cal T (n + 1) 4 [.fz (ns.map D.int)] S Q := by
  refine ⟨_, hT, rfl, rfl, ?_⟩
  refine ⟨_, rfl, ⟨_, rfl, ⟨_, rfl, ⟨_, rfl, fun q hq => ⟨_, rfl, (show 3 ≤ sizeLine by decide), ?_⟩⟩⟩⟩⟩
  rw [cut_map]
  exact w q hq _
/-- a walk under an invariant -/
theorem forL_inv {tg : Tg} {ok : SK2} {body : SK2 → SK2} {nx : SK2} (I : SK2) (hok : ∀ σ S, I σ S → ok σ S) (hend : ∀ σ S, I σ S → nx σ S) : ∀ (xs : List D), (∀ x ∈ xs, ∀ (k : SK2) σ S, (∀ σ S, I σ S → k σ S) → I σ S → bindT tg x σ fun σ' => body k σ' S) → ∀ σ S, I σ S → forL tg ok body nx xs σ S
  | [], _, σ, S, i => ⟨hok _ _ i, hend _ _ i⟩
  | x :: xs, h, σ, S, i => ⟨hok _ _ i, h x List.mem_cons_self _ σ S (forL_inv I hok hend xs fun y hy => h y (List.mem_cons_of_mem _ hy)) i⟩
/-! kinds -/
def okD (S : Hs) (x : D) : Prop := ∀ a, x = .ref a → ∃ ds, S a = some (.lst ds)
theorem okD_k {S : Hs} {x : D} (h : okD S x) (t : Ty) : ∃ b, t.isD x S = some b := by
  cases x with
  | ref a =>
    obtain ⟨ds, e⟩ := h a rfl
    exact ⟨_, by show (match S a with | some (.lst _) => some (decide (t = Ty.list)) | some (.dic _) => some (decide (t = Ty.dict)) | _ => none) = _; rw [e]⟩
  | _ => exact ⟨_, rfl⟩
end LW

namespace LW
open PySem L2 PySem.Spec PyProof.Rows DL
/-! k01: what is a world -/
def isW : D → Bool
  | .int _ => true
  | _ => false
theorem is_whole_ok {T : Tbl} (hT : T.fn 1 = some f_is_whole) (n : Nat) {S : Hs} {x : D} {Q : VK2} (h : okD S x) (w : Q (.d (.bl (isW x))) S) : cal T (n + 1) 1 [.d x] S Q := by
  refine ⟨_, hT, rfl, rfl, ?_⟩
  cases x with
  | ref a =>
    obtain ⟨ds, e⟩ := h a rfl
    refine ⟨_, rfl, false, ?_, Br.mk (fun hb => by cases hb) (fun _ => w)⟩
    show (match S a with | some (.lst _) => some (decide (Ty.int = Ty.list)) | some (.dic _) => some (decide (Ty.int = Ty.dict)) | _ => none) = _
    rw [e]; rfl
  | non => exact ⟨_, rfl, _, rfl, Br.mk (fun hb => by cases hb) (fun _ => w)⟩
  | bl b => exact ⟨_, rfl, _, rfl, Br.mk (fun hb => ⟨_, rfl, _, rfl, w⟩) (fun hb => by cases hb)⟩
  | int i => exact ⟨_, rfl, _, rfl, Br.mk (fun hb => ⟨_, rfl, _, rfl, w⟩) (fun hb => by cases hb)⟩
  | str s => exact ⟨_, rfl, _, rfl, Br.mk (fun hb => by cases hb) (fun _ => w)⟩
  | tup ds => exact ⟨_, rfl, _, rfl, Br.mk (fun hb => by cases hb) (fun _ => w)⟩
def betD (lo hi : Int) : D → Bool
  | .int i => decide (lo ≤ i) && decide (i ≤ hi)
  | _ => false
theorem isW_int {x : D} (h : isW x = true) : ∃ i, x = .int i := by cases x <;> first | exact ⟨_, rfl⟩ | cases h
theorem is_between_ok {T : Tbl} (h1 : T.fn 1 = some f_is_whole) (hT : T.fn 2 = some f_is_between) (n : Nat) {S : Hs} {x : D} {lo hi : Int} {Q : VK2} (h : okD S x) (w : Q (.d (.bl (betD lo hi x))) S) : cal T (n + 2) 2 [.d x, .d (.int lo), .d (.int hi)] S Q := by
  refine ⟨_, hT, rfl, rfl, ?_⟩
  have hc := fun Q => is_whole_ok h1 n (Q := Q) h
  generalize cal T (n + 1) = c at hc ⊢
  refine ⟨_, rfl, hc _ (Br.mk (fun hb => ?_) (fun hb => ?_))⟩
  · obtain ⟨i, rfl⟩ := isW_int hb
    refine ⟨_, rfl, ⟨_, rfl, Br.mk (fun hb => ⟨_, rfl, ?_⟩) (fun hb => ?_)⟩⟩
    · have hb : decide (lo ≤ i) = true := hb
      have e : betD lo hi (.int i) = decide (i ≤ hi) := by show (decide (lo ≤ i) && _) = _; rw [hb]; rfl
      rw [e] at w
      exact w
    · have hb : decide (lo ≤ i) = false := hb
      have e : betD lo hi (.int i) = false := by show (decide (lo ≤ i) && _) = _; rw [hb]; rfl
      rw [e] at w
      exact w
  · have e : betD lo hi x = false := by cases x <;> first | rfl | cases hb
    rw [e] at w
    exact w
def worldD : D → Bool
  | .tup [a, b] => betD 1 6 a && betD 2 1000 b
  | _ => false
/-- a thing whose parts are data, lists of the heap -/
def good (S : Hs) (x : D) : Prop := okD S x ∧ ∀ ds, x = .tup ds → ∀ d ∈ ds, okD S d
theorem isD_tup {S : Hs} {x : D} (h : okD S x) : ∃ b, Ty.isD .tuple x S = some b ∧ (b = true → ∃ ds, x = .tup ds) ∧ (b = false → ∀ ds, x ≠ .tup ds) := by
  cases x with
  | ref a =>
    obtain ⟨ds, e⟩ := h a rfl
    refine ⟨false, ?_, fun z => (by cases z), fun _ ds z => (by cases z)⟩
    show (match S a with | some (.lst _) => some (decide (Ty.tuple = Ty.list)) | some (.dic _) => some (decide (Ty.tuple = Ty.dict)) | _ => none) = _
    rw [e]; rfl
  | tup ds => exact ⟨true, rfl, fun _ => ⟨ds, rfl⟩, fun z => (by cases z)⟩
  | _ => exact ⟨false, rfl, fun z => (by cases z), fun _ ds z => (by cases z)⟩
theorem worldD_len {ds : List D} (h : ¬ ds.length = 2) : worldD (.tup ds) = false := by
  match ds, h with
  | [], _ => rfl
  | [a], _ => rfl
  | [a, b], h => exact (h rfl).elim
  | a :: b :: c :: r, _ => rfl
theorem worldD_no {x : D} (h : ∀ ds, x ≠ .tup ds) : worldD x = false := by
  cases x with
  | tup ds => exact (h ds rfl).elim
  | _ => rfl
structure WTbl (T : Tbl) : Prop where
  f1 : T.fn 1 = some f_is_whole
  f2 : T.fn 2 = some f_is_between
  f3 : T.fn 3 = some f_is_world
  g1 : T.glob 1 = .d (.int 6)
  g2 : T.glob 2 = .d (.int 2)
  g3 : T.glob 3 = .d (.int 1000)
theorem is_world_ok {T : Tbl} (hT : WTbl T) (n : Nat) {S : Hs} {x : D} {Q : VK2} (h : good S x) (w : Q (.d (.bl (worldD x))) S) : cal T (n + 3) 3 [.d x] S Q := by
  refine ⟨_, hT.f3, rfl, rfl, ?_⟩
  have hc : ∀ (y lo hi : Vx) (x : D) (l h : Int) Q, okD S x → y = .d x → lo = .d (.int l) → hi = .d (.int h) → Q (.d (.bl (betD l h x))) S → cal T (n + 2) 2 [y, lo, hi] S Q := fun y lo hi x l h Q o e1 e2 e3 w => by
    subst e1 e2 e3
    exact is_between_ok hT.f1 hT.f2 n o w
  generalize cal T (n + 2) = c at hc ⊢
  obtain ⟨b, e, ht, hf⟩ := isD_tup h.1
  refine ⟨_, rfl, b, e, ?_⟩
  cases b with
  | false =>
    rw [worldD_no (hf rfl)] at w
    exact Br.mk (fun _ => Br.mk (fun _ => w) (fun z => by cases z)) (fun z => by cases z)
  | true =>
    obtain ⟨ds, rfl⟩ := ht rfl
    refine Br.mk (fun z => by cases z) (fun _ => ?_)
    by_cases hl : ds.length = 2
    · obtain ⟨a, b, rfl⟩ : ∃ a b, ds = [a, b] := by
        match ds, hl with
        | [a, b], _ => exact ⟨a, b, rfl⟩
      have ga := h.2 _ rfl a (by simp)
      have gb := h.2 _ rfl b (by simp)
      refine ⟨_, rfl, ⟨_, rfl, ⟨rfl, rfl, Br.mk (fun z => ?_) (fun _ => ?_)⟩⟩⟩
      · have z : (!decide ((2 : Int) = 2)) = true := z
        exact absurd z (by decide)
      refine ⟨_, rfl, ⟨_, rfl, hc _ _ _ _ _ _ _ ga rfl rfl (by rw [hT.g1]; rfl) ?_⟩⟩
      refine Br.mk (fun hb => ?_) (fun hb => ?_)
      · have hb : (!betD 1 6 a) = true := hb
        have e : betD 1 6 a = false := by simpa using hb
        have e2 : worldD (.tup [a, b]) = false := by show (betD 1 6 a && _) = _; rw [e]; rfl
        rw [e2] at w
        exact w
      · have hb : (!betD 1 6 a) = false := hb
        have e : betD 1 6 a = true := by simpa using hb
        refine ⟨_, rfl, ⟨_, rfl, hc _ _ _ _ _ _ _ gb rfl (by rw [hT.g2]; rfl) (by rw [hT.g3]; rfl) ?_⟩⟩
        have e2 : worldD (.tup [a, b]) = betD 2 1000 b := by show (betD 1 6 a && _) = _; rw [e]; rfl
        rw [e2] at w
        exact w
    · rw [worldD_len hl] at w
      have ne : eqB (.int (ds.length : Int)) (.int 2) = false := by
        show decide ((ds.length : Int) = 2) = false
        exact decide_eq_false (by omega)
      refine ⟨_, rfl, ⟨_, rfl, ⟨rfl, by decide +kernel, Br.mk (fun _ => ?_) (fun z => ?_)⟩⟩⟩
      · exact Br.mk (fun _ => w) (fun z => by cases z)
      · have z : (!eqB (.int (ds.length : Int)) (.int 2)) = false := z
        rw [ne] at z; cases z
end LW

namespace LW
open PySem L2 PySem.Spec PyProof.Rows DL
theorem tst_part {T : Tbl} {c : Nat → List Vx → Hs → VK2 → Prop} {σ : Sl} {S : Hs} {i : Nat} {a : D} {P : LK2} (e : σ[i]? = some (some (.d a))) (h : okD S a) (w : P [.d (.bl (!isW a))] S) :
    wpE T c (.or (.not (.o1 (.isi .int) (.v i))) (.one (.o1 (.isi .bool) (.v i)))) σ S P := by
  cases a with
  | ref p =>
    obtain ⟨ds, q⟩ := h p rfl
    refine ⟨_, e, false, ?_, Br.mk (fun _ => w) (fun z => by cases z)⟩
    show (match S p with | some (.lst _) => some (decide (Ty.int = Ty.list)) | some (.dic _) => some (decide (Ty.int = Ty.dict)) | _ => none) = _
    rw [q]; rfl
  | non => exact ⟨_, e, _, rfl, Br.mk (fun _ => w) (fun z => by cases z)⟩
  | bl b => exact ⟨_, e, _, rfl, Br.mk (fun z => by cases z) (fun _ => ⟨_, e, _, rfl, w⟩)⟩
  | int i => exact ⟨_, e, _, rfl, Br.mk (fun z => by cases z) (fun _ => ⟨_, e, _, rfl, w⟩)⟩
  | str s => exact ⟨_, e, _, rfl, Br.mk (fun _ => w) (fun z => by cases z)⟩
  | tup ds => exact ⟨_, e, _, rfl, Br.mk (fun _ => w) (fun z => by cases z)⟩
theorem bet_no {a : D} {l h : Int} (e : isW a = false) : betD l h a = false := by cases a <;> first | rfl | cases e
theorem due_ok {T : Tbl} (hT : T.fn 9 = some f_law_due) (n : Nat) {S : Hs} {x : D} {Q : VK2} (h : good S x) (w : Q (.d (.bl (worldD x))) S) : cal T (n + 1) 9 [.d x] S Q := by
  refine ⟨_, hT, rfl, rfl, ?_⟩
  generalize cal T n = c
  obtain ⟨b, e, ht, hf⟩ := isD_tup h.1
  refine ⟨_, rfl, b, e, ?_⟩
  cases b with
  | false =>
    rw [worldD_no (hf rfl)] at w
    exact Br.mk (fun _ => Br.mk (fun _ => w) (fun z => by cases z)) (fun z => by cases z)
  | true =>
    obtain ⟨ds, rfl⟩ := ht rfl
    refine Br.mk (fun z => by cases z) (fun _ => ?_)
    by_cases hl : ds.length = 2
    · obtain ⟨a, b, rfl⟩ : ∃ a b, ds = [a, b] := by
        match ds, hl with
        | [a, b], _ => exact ⟨a, b, rfl⟩
      have ga := h.2 _ rfl a (by simp)
      have gb := h.2 _ rfl b (by simp)
      refine ⟨_, rfl, ⟨_, rfl, ⟨rfl, rfl, Br.mk (fun z => ?_) (fun _ => ?_)⟩⟩⟩
      · have z : (!decide ((2 : Int) = 2)) = true := z
        exact absurd z (by decide)
      refine ⟨_, rfl, trivial, ?_⟩
      refine tst_part rfl ga (Br.mk (fun z => ?_) (fun z => ?_))
      · have z : (!isW a) = true := z
        have za : isW a = false := by simpa using z
        have e2 : worldD (.tup [a, b]) = false := by show (betD 1 6 a && _) = _; rw [bet_no za]; rfl
        rw [e2] at w
        exact w
      have z : (!isW a) = false := z
      obtain ⟨i, rfl⟩ := isW_int (show isW a = true by simpa using z)
      refine ⟨trivial, ?_⟩
      refine tst_part rfl gb (Br.mk (fun z => ?_) (fun z => ?_))
      · have z : (!isW b) = true := z
        have za : isW b = false := by simpa using z
        have e2 : worldD (.tup [.int i, b]) = false := by show (betD 1 6 _ && betD 2 1000 b) = _; rw [bet_no za, Bool.and_false]
        rw [e2] at w
        exact w
      have z : (!isW b) = false := z
      obtain ⟨j, rfl⟩ := isW_int (show isW b = true by simpa using z)
      have ew : worldD (.tup [.int i, .int j]) = ((decide (1 ≤ i) && decide (i ≤ 6)) && (decide (2 ≤ j) && decide (j ≤ 1000))) := rfl
      rw [ew] at w
      refine ⟨trivial, ?_⟩
      have last : (decide (1 ≤ i) && decide (i ≤ 6)) = true → wpE T c (.one (.chain .le .le (.i 2) (.o2 .idx (.v 0) (.i 1)) (.i 1000))) [some (.d (.tup [.int i, .int j])), some (.d (.int j))] S (one1 fun x S1 => stor x (Q x S1)) := fun e1 => by
        rw [e1] at w
        refine ⟨_, rfl, ⟨_, rfl, Br.mk (fun z => ?_) (fun z => ?_)⟩⟩
        · have z : decide (2 ≤ j) = true := z
          rw [z] at w
          exact w
        · have z : decide (2 ≤ j) = false := z
          rw [z] at w
          exact w
      refine ⟨_, rfl, ⟨_, rfl, Br.mk (fun z => ?_) (fun z => ?_)⟩⟩
      · have z : decide (1 ≤ i) = true := z
        refine Br.mk (fun z2 => last ?_) (fun z2 => ?_)
        · have z2 : decide (i ≤ 6) = true := z2
          rw [z, z2]; rfl
        · have z2 : decide (i ≤ 6) = false := z2
          rw [z, z2] at w
          exact w
      · have z : decide (1 ≤ i) = false := z
        rw [z] at w
        exact Br.mk (fun z => by cases z) (fun _ => w)
    · rw [worldD_len hl] at w
      have ne : eqB (.int (ds.length : Int)) (.int 2) = false := by
        show decide ((ds.length : Int) = 2) = false
        exact decide_eq_false (by omega)
      refine ⟨_, rfl, ⟨_, rfl, ⟨rfl, rfl, Br.mk (fun _ => w) (fun z => ?_)⟩⟩⟩
      have z : (!eqB (.int (ds.length : Int)) (.int 2)) = false := z
      rw [ne] at z; cases z
theorem answers_ok {T : Tbl} (hW : WTbl T) (hD : T.fn 9 = some f_law_due) (hT : T.fn 10 = some f_law_answers) (n : Nat) {S : Hs} {x : D} {Q : VK2} (h : good S x) (w : Q (.d (.bl true)) S) : cal T (n + 4) 10 [.d x] S Q := by
  refine ⟨_, hT, rfl, rfl, ?_⟩
  have h3 := fun Q => is_world_ok hW n (Q := Q) h
  have h9 := fun Q => due_ok hD (n + 2) (Q := Q) h
  generalize cal T (n + 3) = c at h3 h9 ⊢
  refine ⟨_, rfl, h3 _ ⟨_, rfl, ⟨_, rfl, Br.mk (fun _ => ?_) (fun z => by cases z)⟩⟩⟩
  refine ⟨_, rfl, ⟨_, rfl, h9 _ ⟨rfl, rfl, ?_⟩⟩⟩
  have e : eqB (.bl (worldD x)) (.bl (worldD x)) = true := by cases worldD x <;> rfl
  show Q (.d (.bl (eqB (.bl (worldD x)) (.bl (worldD x))))) S
  rw [e]
  exact w
theorem world_ok {T : Tbl} (h5 : T.fn 5 = some f_law_take) (hT : T.fn 6 = some f_law_world) (n : Nat) {S : Hs} {p q : Addr} {ns : List Int} {k r : Int} {Q : VK2} (h : PenAt S p q ns k r)
    (w : ∀ (a b k' r' : Int), 1 ≤ a → a ≤ 6 → 2 ≤ b → b ≤ 1000 → 0 ≤ k' → 0 ≤ r' → Q (.d (.tup [.int a, .int b])) (su S p (.lst [.ref q, .int k', .int r']))) : cal T (n + 2) 6 [.d (.ref p)] S Q := by
  refine ⟨_, hT, rfl, rfl, ?_⟩
  have ht := fun (S : Hs) (k r m : Int) Q (h : PenAt S p q ns k r) => take_ok h5 n (m := m) (Q := Q) h
  generalize cal T (n + 1) = c at ht ⊢
  refine ⟨_, rfl, ht _ _ _ _ _ h (by decide) (by decide) fun a k1 r1 a0 a1 k10 r10 => ?_⟩
  refine ⟨_, rfl, ht _ _ _ _ _ (h.up k10 r10) (by decide) (by decide) fun b k2 r2 b0 b1 k20 r20 => ?_⟩
  rw [su_su]
  refine ⟨_, rfl, (show 5 ≤ sizeLine by decide), ?_⟩
  refine ⟨_, rfl, ht _ _ _ _ _ (h.up k20 r20) (by decide) (by decide) fun i k3 r3 i0 i1 k30 r30 => ?_⟩
  rw [su_su]
  have hi : i = 0 ∨ i = 1 ∨ i = 2 ∨ i = 3 ∨ i = 4 := by omega
  rcases hi with rfl | rfl | rfl | rfl | rfl
  · exact ⟨_, rfl, _, rfl, (show 2 ≤ sizeLine by decide), w _ _ _ _ (by omega) (by omega) (by omega) (by omega) k30 r30⟩
  · exact ⟨_, rfl, _, rfl, (show 2 ≤ sizeLine by decide), w _ _ _ _ (by omega) (by omega) (by omega) (by omega) k30 r30⟩
  · exact ⟨_, rfl, _, rfl, (show 2 ≤ sizeLine by decide), w _ _ _ _ (by omega) (by omega) (by omega) (by omega) k30 r30⟩
  · exact ⟨_, rfl, _, rfl, (show 2 ≤ sizeLine by decide), w _ _ _ _ (by omega) (by omega) (by omega) (by omega) k30 r30⟩
  · exact ⟨_, rfl, _, rfl, (show 2 ≤ sizeLine by decide), w _ _ _ _ (by omega) (by omega) (by omega) (by omega) k30 r30⟩
end LW

namespace LW
open PySem L2 PySem.Spec PyProof.Rows DL
local macro_rules | `(tactic| walk_at "dl_go") => `(tactic| repeat (first | refine ⟨_, rfl, ?_⟩ | refine ⟨Nat.le_of_ble_eq_true rfl, ?_⟩ | refine ⟨by assumption, ?_⟩))
theorem PenAt.alloc {S : Hs} {p q a : Addr} {ns : List Int} {k r : Int} {o : O} (h : PenAt S p q ns k r) (n : S a = none) : PenAt (su S a o) p q ns k r :=
  ⟨by rw [su_ne (fun e => by subst e; rw [h.hp] at n; cases n)]; exact h.hp, by rw [su_ne (fun e => by subst e; rw [h.hq] at n; cases n)]; exact h.hq, h.ne, h.hk, h.hr⟩
def isL (S : Hs) (a : Addr) : Prop := ∃ ds, S a = some (.lst ds)
theorem isL_su {S : Hs} {a b : Addr} {ds : List D} (h : isL S a) : isL (su S b (.lst ds)) a := by
  by_cases e : a = b
  · subst e; exact ⟨_, su_same⟩
  · obtain ⟨es, h⟩ := h
    exact ⟨es, by rw [su_ne e]; exact h⟩
theorem isL_self {S : Hs} {a : Addr} {ds : List D} : isL (su S a (.lst ds)) a := ⟨_, su_same⟩
theorem okD_ref {S : Hs} {a : Addr} (h : isL S a) : okD S (.ref a) := fun b e => by cases e; exact h
theorem getI_lt {ds : List D} {i : Int} (h0 : 0 ≤ i) (h1 : i < ds.length) : ∃ y ∈ ds, getI ds i = some y := by
  obtain ⟨n, rfl⟩ := Int.eq_ofNat_of_zero_le h0
  have hn : n < ds.length := by omega
  exact ⟨ds[n], List.getElem_mem hn, List.getElem?_eq_getElem hn⟩
theorem idx_any {ds : List D} {i : Int} {P : D → Prop} (h0 : 0 ≤ i) (h1 : i < ds.length) (h : ∀ y ∈ ds, P y) : ∃ y, getI ds i = some y ∧ P y := let ⟨y, hy, e⟩ := getI_lt h0 h1; ⟨y, e, h y hy⟩
theorem okD_no {S : Hs} {x : D} (h : ∀ a, x ≠ .ref a) : okD S x := fun a e => (h a e).elim
theorem good_tup {S : Hs} {ds : List D} (h : ∀ d ∈ ds, okD S d) : good S (.tup ds) := ⟨fun a e => (by cases e), fun es e => by cases e; exact h⟩
theorem good_no {S : Hs} {x : D} (h : okD S x) (h2 : ∀ ds, x ≠ .tup ds) : good S x := ⟨h, fun ds e => (h2 ds e).elim⟩
local macro_rules | `(tactic| walk_at "dl_ok") => `(tactic| first | exact okD_ref (by assumption) | exact okD_no (fun a e => by cases e))
local macro_rules | `(tactic| walk_at "dl_good") => `(tactic| first
  | exact good_tup (List.forall_mem_nil _)
  | exact good_tup (List.forall_mem_cons.mpr ⟨by walk_at "dl_ok", List.forall_mem_nil _⟩)
  | exact good_tup (List.forall_mem_cons.mpr ⟨by walk_at "dl_ok", List.forall_mem_cons.mpr ⟨by walk_at "dl_ok", List.forall_mem_nil _⟩⟩)
  | exact good_tup (List.forall_mem_cons.mpr ⟨by walk_at "dl_ok", List.forall_mem_cons.mpr ⟨by walk_at "dl_ok", List.forall_mem_cons.mpr ⟨by walk_at "dl_ok", List.forall_mem_nil _⟩⟩⟩)
  | exact good_no (by walk_at "dl_ok") (fun ds e => by cases e))
theorem bent_ok {T : Tbl} (h5 : T.fn 5 = some f_law_take) (hT : T.fn 8 = some f_law_bent) (n : Nat) {S : Hs} {p q : Addr} {ns : List Int} {k r a b : Int} {Q : VK2} (h : PenAt S p q ns k r) (ha : a.natAbs.log2 < 1920)
    (w : ∀ x S' k' r', PenAt S' p q ns k' r' → good S' x → Q (.d x) S') : cal T (n + 2) 8 [.d (.ref p), .d (.tup [.int a, .int b])] S Q := by
  refine ⟨_, hT, rfl, rfl, ?_⟩
  have ht := fun (S : Hs) (k r m : Int) Q (h : PenAt S p q ns k r) => take_ok h5 n (m := m) (Q := Q) h
  generalize cal T (n + 1) = c at ht ⊢
  refine ⟨_, rfl, _, rfl, _, rfl, ?_⟩
  refine ⟨_, rfl, ⟨⟨by decide, by decide, by decide⟩, ht _ _ _ _ _ h (by decide +kernel) (by decide +kernel) fun m k1 r1 _ _ k10 r10 => ?_⟩⟩
  have h1 := h.up k10 r10
  generalize hS1 : su S p (.lst [.ref q, .int k1, .int r1]) = S1 at h1 ⊢
  walk_at "dl_go"
  intro l1 hl1
  have h2 := h1.alloc (o := .lst [.int a, .int b]) hl1
  walk_at "dl_go"
  intro l2 hl2
  have h3 := h2.alloc (o := .lst [.int a]) hl2
  walk_at "dl_go"
  intro l3 hl3
  have h4 := h3.alloc (o := .lst [.int b]) hl3
  walk_at "dl_go"
  refine ht _ _ _ _ _ h4 (by decide) (by decide) fun i k5 r5 i0 i1 k50 r50 => ?_
  have h5 := h4.up k50 r50
  have e1 : isL (su (su (su (su S1 l1 (.lst [.int a, .int b])) l2 (.lst [.int a])) l3 (.lst [.int b])) p (.lst [.ref q, .int k5, .int r5])) l1 := isL_su (isL_su (isL_su isL_self))
  have e2 : isL (su (su (su (su S1 l1 (.lst [.int a, .int b])) l2 (.lst [.int a])) l3 (.lst [.int b])) p (.lst [.ref q, .int k5, .int r5])) l2 := isL_su (isL_su isL_self)
  have e3 : isL (su (su (su (su S1 l1 (.lst [.int a, .int b])) l2 (.lst [.int a])) l3 (.lst [.int b])) p (.lst [.ref q, .int k5, .int r5])) l3 := isL_su isL_self
  generalize su (su (su (su S1 l1 (.lst [.int a, .int b])) l2 (.lst [.int a])) l3 (.lst [.int b])) p (.lst [.ref q, .int k5, .int r5]) = S' at h5 e1 e2 e3 ⊢
  refine idx_any i0 i1 fun y hy => w y S' _ _ h5 ?_
  revert hy
  revert y
  simp only [List.forall_mem_append, List.forall_mem_cons, List.cons_append, List.nil_append]
  repeat refine ⟨by walk_at "dl_good", ?_⟩
  exact List.forall_mem_nil _
theorem law_ok1 {T : Tbl} (hW : WTbl T) (h4 : T.fn 4 = some f_law_pen) (h5 : T.fn 5 = some f_law_take) (h6 : T.fn 6 = some f_law_world) (h8 : T.fn 8 = some f_law_bent) (h9 : T.fn 9 = some f_law_due) (h10 : T.fn 10 = some f_law_answers) (hT : T.fn 11 = some f_law)
    (n : Nat) {ns : List Int} : cal T (n + 5) 11 [.fz (ns.map D.int)] (fun _ => none) fun r _ => r = .d (.bl true) := by
  refine ⟨_, hT, rfl, rfl, ?_⟩
  have c4 := fun Q => pen_ok h4 (n + 3) (ns := ns) (S := fun _ => none) (Q := Q)
  have c6 := fun S p q ns k r Q => world_ok h5 h6 (n + 2) (S := S) (p := p) (q := q) (ns := ns) (k := k) (r := r) (Q := Q)
  have c3 := fun S x Q => is_world_ok hW (n + 1) (S := S) (x := x) (Q := Q)
  have c10 := fun S x Q => answers_ok hW h9 h10 n (S := S) (x := x) (Q := Q)
  have c8 := fun S p q ns k r a b Q => bent_ok h5 h8 (n + 2) (S := S) (p := p) (q := q) (ns := ns) (k := k) (r := r) (a := a) (b := b) (Q := Q)
  generalize cal T (n + 4) = c at c4 c6 c3 c10 c8 ⊢
  refine ⟨_, rfl, c4 _ fun q hq ns => ?_⟩
  refine ⟨_, rfl, fun p hp => ?_⟩
  have hne : q ≠ p := fun e => by subst e; rw [su_same] at hp; cases hp
  have h0 : PenAt (su (su (fun _ => none) q (.lst (ns.map .int))) p (.lst [.ref q, .int 0, .int 0])) p q ns 0 0 := ⟨su_same, by rw [su_ne hne]; exact su_same, hne, by decide, by decide⟩
  generalize su (su (fun _ => none) q (.lst (ns.map .int))) p (.lst [.ref q, .int 0, .int 0]) = S0 at h0 ⊢
  refine ⟨_, rfl, by decide, by decide, ?_⟩
  refine forL_inv (fun σ S => ∃ s0 s2 s3 s4 k r, σ = [s0, some (.d (.ref p)), s2, s3, s4] ∧ PenAt S p q ns k r) (fun _ _ _ => trivial) ?last _ ?turn _ _ ⟨_, _, _, _, _, _, rfl, h0⟩
  case turn =>
    rintro x _ k σ S hk ⟨s0, s2, s3, s4, k0, r0, rfl, h⟩
    refine ⟨_, rfl, c6 _ _ _ _ _ _ _ h fun a b k1 r1 a0 a1 b0 b1 k10 r10 => ?_⟩
    have h1 := h.up k10 r10
    generalize su S p (.lst [.ref q, .int k1, .int r1]) = S1 at h1 ⊢
    have gw : worldD (.tup [.int a, .int b]) = true := by
      show ((decide (1 ≤ a) && decide (a ≤ 6)) && (decide (2 ≤ b) && decide (b ≤ 1000))) = true
      simp [a0, a1, b0, b1]
    refine ⟨_, rfl, c3 _ _ _ (by walk_at "dl_good") ?_⟩
    rw [gw]
    refine ⟨_, rfl, Br.mk (fun z => by cases z) (fun _ => ?_)⟩
    have ha : a.natAbs.log2 < 1920 := Nat.lt_of_le_of_lt (Nat.log2_le_self _) (by omega)
    refine ⟨_, rfl, ⟨_, rfl, c8 _ _ _ _ _ _ _ _ _ h1 ha fun y S2 k2 r2 h2 gy => ?_⟩⟩
    exact c10 _ _ _ gy (Br.mk (fun z => by cases z) (fun _ => hk _ _ ⟨_, _, _, _, _, _, rfl, h2⟩))
  case last =>
    rintro σ S ⟨s0, s2, s3, s4, k0, r0, rfl, h⟩
    walk_at "dl_go"
    intro l hl
    walk_at "dl_go"
    refine forL_inv (fun σ S' => ∃ s0 s2 s3 s4, σ = [s0, some (.d (.ref p)), s2, s3, s4] ∧ isL S' l) (fun _ _ _ => trivial) (fun _ _ _ => rfl) _ ?_ _ _ ⟨_, _, _, _, rfl, isL_self⟩
    have turn : ∀ (x : D), (∀ S, isL S l → good S x) → ∀ (k : SK2) σ S, (∀ σ S, (∃ s0 s2 s3 s4, σ = [s0, some (.d (.ref p)), s2, s3, s4] ∧ isL S l) → k σ S) → (∃ s0 s2 s3 s4, σ = [s0, some (.d (.ref p)), s2, s3, s4] ∧ isL S l) →
        bindT (.nm 4) x σ fun σ' => wpS T c (.iff (.not (.call 10 (.cons (.v 4) .nil))) (.ret (.b false)) .skip) σ' S k (fun r _ => r = .d (.bl true)) (fun σ' S' => wpS T c (.ret (.b true)) σ' S' (fun _ S' => Vx.d .non = .d (.bl true)) (fun r _ => r = .d (.bl true)) (fun _ _ => False) (fun _ _ => False)) k := by
      rintro x gx k σ S hk ⟨s0, s2, s3, s4, rfl, e1⟩
      exact ⟨_, rfl, c10 _ _ _ (gx S e1) (Br.mk (fun z => by cases z) (fun _ => hk _ _ ⟨_, _, _, _, rfl, e1⟩))⟩
    have each : ∀ (ds : List D), (∀ x ∈ ds, ∀ S, isL S l → good S x) → ∀ x ∈ ds, ∀ (k : SK2) σ S, (∀ σ S, (∃ s0 s2 s3 s4, σ = [s0, some (.d (.ref p)), s2, s3, s4] ∧ isL S l) → k σ S) → (∃ s0 s2 s3 s4, σ = [s0, some (.d (.ref p)), s2, s3, s4] ∧ isL S l) →
        bindT (.nm 4) x σ fun σ' => wpS T c (.iff (.not (.call 10 (.cons (.v 4) .nil))) (.ret (.b false)) .skip) σ' S k (fun r _ => r = .d (.bl true)) (fun σ' S' => wpS T c (.ret (.b true)) σ' S' (fun _ S' => Vx.d .non = .d (.bl true)) (fun r _ => r = .d (.bl true)) (fun _ _ => False) (fun _ _ => False)) k :=
      fun ds h x hx => turn x (h x hx)
    refine each _ ?_
    repeat refine List.forall_mem_cons.mpr ⟨fun S e => by walk_at "dl_good", ?_⟩
    exact List.forall_mem_nil _
end LW

namespace LW
open PySem L2 PySem.Spec PyProof.Rows DL
local macro_rules | `(tactic| walk_at "dl_go") => `(tactic| repeat (first | refine ⟨_, rfl, ?_⟩ | refine ⟨Nat.le_of_ble_eq_true rfl, ?_⟩ | refine ⟨by assumption, ?_⟩))
local macro_rules | `(tactic| walk_at "dl_ok") => `(tactic| first | exact okD_ref (by assumption) | exact okD_no (fun a e => by cases e))
local macro_rules | `(tactic| walk_at "dl_good") => `(tactic| first
  | exact good_tup (List.forall_mem_nil _)
  | exact good_tup (List.forall_mem_cons.mpr ⟨by walk_at "dl_ok", List.forall_mem_nil _⟩)
  | exact good_tup (List.forall_mem_cons.mpr ⟨by walk_at "dl_ok", List.forall_mem_cons.mpr ⟨by walk_at "dl_ok", List.forall_mem_nil _⟩⟩)
  | exact good_no (by walk_at "dl_ok") (fun ds e => by cases e))
/-- a walk, the items gone through known -/
theorem forL_pre {tg : Tg} {ok : SK2} {body : SK2 → SK2} {nx : SK2} {xs : List D} (I : List D → SK2) (hok : ∀ pre σ S, I pre σ S → ok σ S) (hend : ∀ σ S, I xs σ S → nx σ S)
    (step : ∀ pre x post, xs = pre ++ x :: post → ∀ (k : SK2) σ S, (∀ σ S, I (pre ++ [x]) σ S → k σ S) → I pre σ S → bindT tg x σ fun σ' => body k σ' S) : ∀ σ S, I [] σ S → forL tg ok body nx xs σ S := by
  have key : ∀ post pre, xs = pre ++ post → ∀ σ S, I pre σ S → forL tg ok body nx post σ S := by
    intro post
    induction post with
    | nil => intro pre e σ S i; rw [List.append_nil] at e; subst e; exact ⟨hok _ _ _ i, hend _ _ i⟩
    | cons x post ih => exact fun pre e σ S i => ⟨hok _ _ _ i, step pre x post e _ σ S (fun σ S => ih (pre ++ [x]) (by rw [e]; simp) σ S) i⟩
  exact key xs [] rfl
/-- a comprehension without a test -/
theorem compL_inv {tg : Tg} {ok : Sl → Hs → Prop} {elt : Sl → Hs → (D → Hs → Prop) → Prop} {tst : Sl → Hs → (Bool → Hs → Prop) → Prop} {σ : Sl} {K : List D → Hs → Prop} (I : List D → Hs → Prop) (N : Nat) (hok : ∀ acc S, I acc S → ok σ S) (hN : N ≤ sizeLine) (fin : ∀ acc S, acc.length = N → I acc S → K acc S) :
    ∀ (xs : List D), (∀ x ∈ xs, ∀ acc S, I acc S → ∀ (P1 : D → Hs → Prop) (P2 : Hs → Prop), (∀ y S2, I (acc ++ [y]) S2 → P1 y S2) → bindT tg x σ fun σ' => tst σ' S fun b S1 => Br b (elt σ' S1 P1) (P2 S1)) → ∀ acc S, acc.length + xs.length = N → I acc S → compL tg ok elt tst σ xs acc S K
  | [], _, acc, S, e, i => ⟨hok _ _ i, fin _ _ (by simpa using e) i⟩
  | x :: xs, h, acc, S, e, i => ⟨hok _ _ i, h x List.mem_cons_self acc S i _ _ fun y S2 i2 => ⟨by simp at e; omega, compL_inv I N hok hN fin xs (fun y hy => h y (List.mem_cons_of_mem _ hy)) _ S2 (by simp at e ⊢; omega) i2⟩⟩
theorem compL_map {tg : Tg} {ok : Sl → Hs → Prop} {elt : Sl → Hs → (D → Hs → Prop) → Prop} {tst : Sl → Hs → (Bool → Hs → Prop) → Prop} {σ : Sl} {K : List D → Hs → Prop} (f : D → D) {S : Hs} (hok : ok σ S) :
    ∀ (xs acc : List D), (∀ x ∈ xs, ∀ (P1 : D → Hs → Prop) (P2 : Hs → Prop), P1 (f x) S → bindT tg x σ fun σ' => tst σ' S fun b S1 => Br b (elt σ' S1 P1) (P2 S1)) → acc.length + xs.length ≤ sizeLine → K (acc ++ xs.map f) S → compL tg ok elt tst σ xs acc S K
  | [], acc, _, _, k => ⟨hok, by simpa using k⟩
  | x :: xs, acc, h, hl, k => ⟨hok, h x List.mem_cons_self _ _ ⟨by simp at hl; omega, compL_map f hok xs (acc ++ [f x]) (fun y hy => h y (List.mem_cons_of_mem _ hy)) (by simp at hl ⊢; omega) (by simpa using k)⟩⟩
theorem su_pen {S : Hs} {p q : Addr} {ns : List Int} {k r : Int} (h : PenAt S p q ns k r) : su S p (.lst [.ref q, .int k, .int r]) = S := by
  funext b
  unfold su
  split
  · rename_i z; rw [z]; exact h.hp.symm
  · rfl
theorem rngD_len : ∀ (n : Nat) (lo : Int), (rngD lo n).length = n
  | 0, _ => rfl
  | n + 1, lo => by simp [rngD, rngD_len n]
theorem state_ok {T : Tbl} (h5 : T.fn 5 = some f_law_take) (hT : T.fn 7 = some f_law_state) (n : Nat) {S : Hs} {p q : Addr} {ns : List Int} {k r a b : Int} {Q : VK2} (h : PenAt S p q ns k r) (a1 : 1 ≤ a) (a6 : a ≤ 6) (b2 : 2 ≤ b) (b3 : b ≤ 1000)
    (w : ∀ (ss : List Int) (k' r' : Int), ss.length = a.toNat → (∀ s ∈ ss, 0 ≤ s ∧ s < b) → 0 ≤ k' → 0 ≤ r' → Q (.d (.tup (ss.map .int))) (su S p (.lst [.ref q, .int k', .int r']))) : cal T (n + 2) 7 [.d (.ref p), .d (.tup [.int a, .int b])] S Q := by
  refine ⟨_, hT, rfl, rfl, ?_⟩
  have ht := fun (S : Hs) (k r m : Int) Q (h : PenAt S p q ns k r) => take_ok h5 n (m := m) (Q := Q) h
  generalize cal T (n + 1) = c at ht ⊢
  refine ⟨_, rfl, ⟨_, rfl, ⟨_, rfl, by omega, by omega, ?_⟩⟩⟩
  refine compL_inv (fun acc S' => ∃ ss k r, acc = List.map D.int ss ∧ (∀ s ∈ ss, 0 ≤ s ∧ s < b) ∧ S' = su S p (.lst [.ref q, .int k, .int r]) ∧ 0 ≤ k ∧ 0 ≤ r) a.toNat (fun _ _ _ => trivial) (by rw [sizeLine_eq]; omega) ?_ _ ?_ [] S (by simp [rngD_len]) ⟨[], k, r, rfl, by simp, (su_pen h).symm, h.hk, h.hr⟩
  · rintro acc S' hl ⟨ss, k', r', rfl, hs, rfl, k0, r0⟩
    exact ⟨_, rfl, w ss k' r' (by simpa using hl) hs k0 r0⟩
  · rintro x _ acc S' ⟨ss, k', r', rfl, hs, rfl, k0, r0⟩ P1 P2 hP
    refine Br.mk (fun _ => ?_) (fun z => by cases z)
    refine ⟨_, rfl, ⟨_, rfl, ⟨_, rfl, ht _ _ _ _ _ (h.up k0 r0) (by omega) (Nat.lt_of_le_of_lt (Nat.log2_le_self _) (by omega)) fun s k2 r2 s0 s1 k20 r20 => ?_⟩⟩⟩
    rw [su_su]
    exact hP _ _ ⟨ss ++ [s], k2, r2, by simp, fun t ht => (List.mem_append.mp ht).elim (hs t) fun z => by simp at z; subst z; exact ⟨s0, s1⟩, rfl, k20, r20⟩
/-! k02 -/
def stateD (a b : Int) : D → Bool
  | .tup ds => decide ((ds.length : Int) = a) && ds.all (betD 0 (b - 1))
  | _ => false
theorem stateD_no {a b : Int} {x : D} (h : ∀ ds, x ≠ .tup ds) : stateD a b x = false := by
  cases x with
  | tup ds => exact (h ds rfl).elim
  | _ => rfl
theorem is_state_ok {T : Tbl} (h1 : T.fn 1 = some f_is_whole) (h2 : T.fn 2 = some f_is_between) (hT : T.fn 12 = some f_is_state) (n : Nat) {S : Hs} {x : D} {a b : Int} {Q : VK2} (g : good S x) (hz : ∀ ds, x = .tup ds → ds.length ≤ 1000) (w : Q (.d (.bl (stateD a b x))) S) :
    cal T (n + 3) 12 [.d (.tup [.int a, .int b]), .d x] S Q := by
  refine ⟨_, hT, rfl, rfl, ?_⟩
  have hc : ∀ (x : D) (l h : Int) Q, okD S x → Q (.d (.bl (betD l h x))) S → cal T (n + 2) 2 [.d x, .d (.int l), .d (.int h)] S Q := fun x l h Q o w => is_between_ok h1 h2 n o w
  generalize cal T (n + 2) = c at hc ⊢
  obtain ⟨t, e, ht, hf⟩ := isD_tup g.1
  refine ⟨_, rfl, t, e, ?_⟩
  cases t with
  | false =>
    rw [stateD_no (hf rfl)] at w
    exact Br.mk (fun _ => Br.mk (fun _ => w) (fun z => by cases z)) (fun z => by cases z)
  | true =>
    obtain ⟨ds, rfl⟩ := ht rfl
    refine Br.mk (fun z => by cases z) (fun _ => ?_)
    refine ⟨_, rfl, ⟨_, rfl, ⟨_, rfl, ⟨_, rfl, ⟨rfl, rfl, Br.mk (fun z => ?_) (fun z => ?_)⟩⟩⟩⟩⟩
    · have z : (!decide ((ds.length : Int) = a)) = true := z
      have z : decide ((ds.length : Int) = a) = false := by simpa using z
      have e : stateD a b (.tup ds) = false := by show (decide ((ds.length : Int) = a) && _) = _; rw [z]; rfl
      rw [e] at w
      exact w
    · have z : (!decide ((ds.length : Int) = a)) = false := z
      have z : decide ((ds.length : Int) = a) = true := by simpa using z
      have e : stateD a b (.tup ds) = ds.all (betD 0 (b - 1)) := by show (decide ((ds.length : Int) = a) && _) = _; rw [z]; rfl
      rw [e] at w
      have gd := g.2 ds rfl
      refine ⟨_, rfl, ?_⟩
      refine compL_map (fun x => .bl (betD 0 (b - 1) x)) trivial ds [] (fun x hx P1 P2 hP => ?_) (by rw [sizeLine_eq]; have := hz ds rfl; simp; omega) ?_
      · exact Br.mk (fun _ => ⟨_, rfl, ⟨_, rfl, ⟨_, rfl, hc _ _ _ _ (gd x hx) hP⟩⟩⟩) (fun z => by cases z)
      · refine ⟨_, ds.map (betD 0 (b - 1)), rfl, by simp [List.map_map], ?_⟩
        have e2 : (ds.map (betD 0 (b - 1))).all id = ds.all (betD 0 (b - 1)) := by rw [List.all_map]; rfl
        rw [e2]
        exact w
end LW

namespace LW
open PySem L2 PySem.Spec PyProof.Rows DL
local macro_rules | `(tactic| walk_at "dl_go") => `(tactic| repeat (first | refine ⟨_, rfl, ?_⟩ | refine ⟨Nat.le_of_ble_eq_true rfl, ?_⟩ | refine ⟨by assumption, ?_⟩))
local macro_rules | `(tactic| walk_at "dl_ok") => `(tactic| first | exact okD_ref (by assumption) | exact okD_no (fun a e => by cases e))
local macro_rules | `(tactic| walk_at "dl_good") => `(tactic| first
  | exact good_tup (List.forall_mem_nil _)
  | exact good_tup (List.forall_mem_cons.mpr ⟨by walk_at "dl_ok", List.forall_mem_nil _⟩)
  | exact good_tup (List.forall_mem_cons.mpr ⟨by walk_at "dl_ok", List.forall_mem_cons.mpr ⟨by walk_at "dl_ok", List.forall_mem_nil _⟩⟩)
  | exact good_no (by walk_at "dl_ok") (fun ds e => by cases e))
theorem tst_num {T : Tbl} {c : Nat → List Vx → Hs → VK2 → Prop} {x y : D} {a b : Int} {S : Hs} {P : LK2} (h : okD S y) (w : P [.d (.bl (!betD 0 (b - 1) y))] S) :
    wpE T c (.or (.not (.o1 (.isi .int) (.v 2))) (.or (.o1 (.isi .bool) (.v 2)) (.one (.not (.chain .le .lt (.i 0) (.v 2) (.o2 .idx (.v 0) (.i 1))))))) [some (.d (.tup [.int a, .int b])), some (.d x), some (.d y)] S P := by
  cases y with
  | ref p =>
    obtain ⟨ds, q⟩ := h p rfl
    refine ⟨_, rfl, false, ?_, Br.mk (fun _ => w) (fun z => by cases z)⟩
    show (match S p with | some (.lst _) => some (decide (Ty.int = Ty.list)) | some (.dic _) => some (decide (Ty.int = Ty.dict)) | _ => none) = _
    rw [q]; rfl
  | non => exact ⟨_, rfl, _, rfl, Br.mk (fun _ => w) (fun z => by cases z)⟩
  | bl t => exact ⟨_, rfl, _, rfl, Br.mk (fun z => by cases z) (fun _ => ⟨_, rfl, _, rfl, Br.mk (fun _ => w) (fun z => by cases z)⟩)⟩
  | str s => exact ⟨_, rfl, _, rfl, Br.mk (fun _ => w) (fun z => by cases z)⟩
  | tup ds => exact ⟨_, rfl, _, rfl, Br.mk (fun _ => w) (fun z => by cases z)⟩
  | int i =>
    refine ⟨_, rfl, _, rfl, Br.mk (fun z => by cases z) (fun _ => ⟨_, rfl, _, rfl, Br.mk (fun z => by cases z) (fun _ => ?_)⟩)⟩
    refine ⟨_, rfl, Br.mk (fun z => ?_) (fun z => ?_)⟩
    · have z : decide (0 ≤ i) = true := z
      refine ⟨_, rfl, ⟨_, rfl, ?_⟩⟩
      have e : betD 0 (b - 1) (.int i) = decide (i < b) := by
        show (decide (0 ≤ i) && decide (i ≤ b - 1)) = _
        rw [z, Bool.true_and]
        exact decide_eq_decide.mpr (by omega)
      rw [e] at w
      exact w
    · have z : decide (0 ≤ i) = false := z
      have e : betD 0 (b - 1) (.int i) = false := by show (decide (0 ≤ i) && _) = _; rw [z]; rfl
      rw [e] at w
      exact w
theorem due2_ok {T : Tbl} (hT : T.fn 14 = some f_law_due_2) (n : Nat) {S : Hs} {x : D} {a b : Int} {Q : VK2} (g : good S x) (w : Q (.d (.bl (stateD a b x))) S) : cal T (n + 1) 14 [.d (.tup [.int a, .int b]), .d x] S Q := by
  refine ⟨_, hT, rfl, rfl, ?_⟩
  generalize cal T n = c
  obtain ⟨t, e, ht, hf⟩ := isD_tup g.1
  refine ⟨_, rfl, t, e, ?_⟩
  cases t with
  | false =>
    rw [stateD_no (hf rfl)] at w
    exact Br.mk (fun _ => Br.mk (fun _ => w) (fun z => by cases z)) (fun z => by cases z)
  | true =>
    obtain ⟨ds, rfl⟩ := ht rfl
    refine Br.mk (fun z => by cases z) (fun _ => ?_)
    refine ⟨_, rfl, ⟨_, rfl, ⟨_, rfl, ⟨_, rfl, ⟨rfl, rfl, Br.mk (fun z => ?_) (fun z => ?_)⟩⟩⟩⟩⟩
    · have z : (!decide ((ds.length : Int) = a)) = true := z
      have z : decide ((ds.length : Int) = a) = false := by simpa using z
      have e : stateD a b (.tup ds) = false := by show (decide ((ds.length : Int) = a) && _) = _; rw [z]; rfl
      rw [e] at w
      exact w
    · have z : (!decide ((ds.length : Int) = a)) = false := z
      have z : decide ((ds.length : Int) = a) = true := by simpa using z
      have e : stateD a b (.tup ds) = ds.all (betD 0 (b - 1)) := by show (decide ((ds.length : Int) = a) && _) = _; rw [z]; rfl
      rw [e] at w
      have gd := g.2 ds rfl
      refine ⟨_, rfl, ?_⟩
      refine forL_pre (xs := ds) (fun pre σ S' => S' = S ∧ (∃ s2, σ = [some (.d (.tup [.int a, .int b])), some (.d (.tup ds)), s2]) ∧ ∀ y ∈ pre, betD 0 (b - 1) y = true) (fun _ _ _ _ => trivial) ?_ ?_ _ _ ⟨rfl, ⟨_, rfl⟩, by simp⟩
      · rintro σ S' ⟨rfl, ⟨s2, rfl⟩, h⟩
        have e : ds.all (betD 0 (b - 1)) = true := List.all_eq_true.mpr h
        rw [e] at w
        exact w
      · rintro pre y post ed k σ S' hk ⟨rfl, ⟨s2, rfl⟩, h⟩
        have hy : y ∈ ds := by rw [ed]; simp
        refine tst_num (gd y hy) (Br.mk (fun z => ?_) (fun z => ?_))
        · have z : (!betD 0 (b - 1) y) = true := z
          have z : betD 0 (b - 1) y = false := by simpa using z
          have e : ds.all (betD 0 (b - 1)) = false := by
            cases q : ds.all (betD 0 (b - 1)) with
            | false => rfl
            | true => have := List.all_eq_true.mp q y hy; rw [z] at this; cases this
          rw [e] at w
          exact w
        · have z : (!betD 0 (b - 1) y) = false := z
          have z : betD 0 (b - 1) y = true := by simpa using z
          exact hk _ _ ⟨rfl, ⟨_, rfl⟩, fun u hu => (List.mem_append.mp hu).elim (h u) fun q => by simp at q; subst q; exact z⟩
theorem answers2_ok {T : Tbl} (h1 : T.fn 1 = some f_is_whole) (h2 : T.fn 2 = some f_is_between) (h12 : T.fn 12 = some f_is_state) (h14 : T.fn 14 = some f_law_due_2) (hT : T.fn 15 = some f_law_answers_2) (n : Nat) {S : Hs} {x : D} {a b : Int} {Q : VK2} (g : good S x) (hz : ∀ ds, x = .tup ds → ds.length ≤ 1000)
    (w : Q (.d (.bl true)) S) : cal T (n + 4) 15 [.d (.tup [.int a, .int b]), .d x] S Q := by
  refine ⟨_, hT, rfl, rfl, ?_⟩
  have h3 := fun Q => is_state_ok h1 h2 h12 n (a := a) (b := b) (Q := Q) g hz
  have h9 := fun Q => due2_ok h14 (n + 2) (a := a) (b := b) (Q := Q) g
  generalize cal T (n + 3) = c at h3 h9 ⊢
  refine ⟨_, rfl, ⟨_, rfl, h3 _ ⟨_, rfl, ⟨_, rfl, Br.mk (fun _ => ?_) (fun z => by cases z)⟩⟩⟩⟩
  refine ⟨_, rfl, ⟨_, rfl, ⟨_, rfl, h9 _ ⟨rfl, rfl, ?_⟩⟩⟩⟩
  have e : eqB (.bl (stateD a b x)) (.bl (stateD a b x)) = true := by cases stateD a b x <;> rfl
  show Q (.d (.bl (eqB (.bl (stateD a b x)) (.bl (stateD a b x))))) S
  rw [e]
  exact w
end LW

namespace LW
open PySem L2 PySem.Spec PyProof.Rows DL
local macro_rules | `(tactic| walk_at "dl_go") => `(tactic| repeat (first | refine ⟨_, rfl, ?_⟩ | refine ⟨_, by assumption, ?_⟩ | refine ⟨Nat.le_of_ble_eq_true rfl, ?_⟩ | refine ⟨by assumption, ?_⟩))
local macro_rules | `(tactic| walk_at "dl_ok") => `(tactic| first | exact okD_ref (by assumption) | exact okD_no (fun a e => by cases e))
local macro_rules | `(tactic| walk_at "dl_good") => `(tactic| first
  | exact good_tup (List.forall_mem_nil _)
  | exact good_tup (List.forall_mem_cons.mpr ⟨by walk_at "dl_ok", List.forall_mem_nil _⟩)
  | exact good_tup (List.forall_mem_cons.mpr ⟨by walk_at "dl_ok", List.forall_mem_cons.mpr ⟨by walk_at "dl_ok", List.forall_mem_nil _⟩⟩)
  | exact good_no (by walk_at "dl_ok") (fun ds e => by cases e))
theorem cut_mem {α : Type} {xs : List α} {lo hi : Option Int} {x : α} (h : x ∈ cutI xs lo hi) : x ∈ xs := List.mem_of_mem_drop (List.mem_of_mem_take h)
theorem cut_len {α : Type} (xs : List α) (lo hi : Option Int) : (cutI xs lo hi).length ≤ xs.length := by
  unfold cutI
  simp
  omega
theorem ok_int {S : Hs} {ss : List Int} {d : D} (h : d ∈ ss.map D.int) : okD S d := by
  obtain ⟨i, _, rfl⟩ := List.mem_map.mp h
  exact okD_no fun a e => by cases e
theorem bent2_ok {T : Tbl} (h5 : T.fn 5 = some f_law_take) (hT : T.fn 13 = some f_law_bent_2) (n : Nat) {S : Hs} {p q : Addr} {ns ss : List Int} {k r a b : Int} {Q : VK2} (h : PenAt S p q ns k r) (a1 : 1 ≤ a) (a6 : a ≤ 6) (hl : ss.length = a.toNat) (hs : ∀ s ∈ ss, 0 ≤ s ∧ s < b) (b3 : b ≤ 1000)
    (w : ∀ x S' k' r', PenAt S' p q ns k' r' → good S' x → (∀ ds, x = .tup ds → ds.length ≤ 1000) → Q (.d x) S') : cal T (n + 2) 13 [.d (.ref p), .d (.tup [.int a, .int b]), .d (.tup (ss.map .int))] S Q := by
  refine ⟨_, hT, rfl, rfl, ?_⟩
  have ht := fun (S : Hs) (k r m : Int) Q (h : PenAt S p q ns k r) => take_ok h5 n (m := m) (Q := Q) h
  generalize cal T (n + 1) = c at ht ⊢
  refine ⟨_, rfl, ⟨_, rfl, ⟨_, rfl, ht _ _ _ _ _ h (by omega) (Nat.lt_of_le_of_lt (Nat.log2_le_self _) (by omega)) fun t k1 r1 t0 t1 k10 r10 => ?_⟩⟩⟩
  have h1 := h.up k10 r10
  generalize su S p (.lst [.ref q, .int k1, .int r1]) = S1 at h1 ⊢
  refine ⟨_, rfl, ⟨⟨by decide, by decide, by decide⟩, ht _ _ _ _ _ h1 (by decide +kernel) (by decide +kernel) fun m k2 r2 _ _ k20 r20 => ?_⟩⟩
  have h2 := h1.up k20 r20
  generalize su S1 p (.lst [.ref q, .int k2, .int r2]) = S2 at h2 ⊢
  obtain ⟨c0, hc0⟩ := get_ints (ns := ss) t0 (by omega)
  have hcs : c0 ∈ ss := by
    obtain ⟨y, hy, e⟩ := getI_lt (ds := ss.map D.int) t0 (by simp; omega)
    rw [hc0] at e
    cases e
    obtain ⟨i, hi, e⟩ := List.mem_map.mp hy
    cases e
    exact hi
  have hb := hs c0 hcs
  have hlog : c0.natAbs.log2 < 1920 := Nat.lt_of_le_of_lt (Nat.log2_le_self _) (by omega)
  walk_at "dl_go"
  intro l1 hl1
  have h3 := h2.alloc (o := .lst [.int c0]) hl1
  walk_at "dl_go"
  refine ht _ _ _ _ _ h3 (by decide) (by decide) fun i k3 r3 i0 i1 k30 r30 => ?_
  have h4 := h3.up k30 r30
  have e1 : isL (su (su S2 l1 (.lst [.int c0])) p (.lst [.ref q, .int k3, .int r3])) l1 := isL_su isL_self
  generalize su (su S2 l1 (.lst [.int c0])) p (.lst [.ref q, .int k3, .int r3]) = S3 at h4 e1 ⊢
  have hL : (ss.map D.int).length ≤ 6 := by simp; omega
  refine idx_any i0 i1 fun y hy => ?_
  have oy : okD S3 y := by
    revert hy
    revert y
    simp only [List.forall_mem_cons, List.cons_append, List.nil_append]
    repeat refine ⟨by walk_at "dl_ok", ?_⟩
    exact List.forall_mem_nil _
  clear hy
  show wpS T c _ _ S3 _ _ _ _
  refine ⟨_, rfl, (?_ : bx (.d y) S3 _)⟩
  show wpS T c _ _ S3 _ _ _ _
  refine ⟨_, rfl, ht _ _ _ _ _ h4 (by decide) (by decide) fun j k5 r5 j0 j1 k50 r50 => ?_⟩
  have h6 := h4.up k50 r50
  have oy : okD (su S3 p (.lst [.ref q, .int k5, .int r5])) y := fun z e => isL_su (oy z e)
  generalize su S3 p (.lst [.ref q, .int k5, .int r5]) = S4 at h6 oy ⊢
  have c1 := cut_len (ss.map D.int) none (some t)
  have c2 := cut_len (ss.map D.int) (some (t + 1)) none
  refine ⟨_, rfl, Br.mk (fun _ => ?_) (fun hj => ?_)⟩
  · refine ⟨_, rfl, ⟨_, rfl, ⟨_, rfl, ⟨_, rfl, ?_⟩⟩⟩⟩
    refine ⟨_, rfl, ⟨_, rfl, (show 1 ≤ sizeLine by decide), ?_⟩⟩
    refine ⟨by rw [sizeLine_eq]; show (cutI (ss.map D.int) none (some t)).length + 1 ≤ _; omega, ?_⟩
    refine ⟨_, rfl, ⟨_, rfl, ⟨_, rfl, ⟨_, rfl, ?_⟩⟩⟩⟩
    have le : (cutI (ss.map D.int) none (some t) ++ [y]).length + (cutI (ss.map D.int) (some (t + 1)) none).length ≤ 100 := by simp only [List.length_append, List.length_cons, List.length_nil]; omega
    refine ⟨by rw [sizeLine_eq]; exact Nat.le_trans le (by decide), ?_⟩
    refine w _ _ _ _ h6 (good_tup fun d hd => ?_) (fun ds e => by cases e; rw [List.length_append]; omega)
    rcases List.mem_append.mp hd with hd | hd
    · rcases List.mem_append.mp hd with hd | hd
      · exact ok_int (cut_mem hd)
      · have e : d = y := by simpa using hd
        subst e; exact oy
    · exact ok_int (cut_mem hd)
  · refine ⟨_, rfl, ⟨_, rfl, ?_⟩⟩
    intro l2 hl2
    have h7 := h6.alloc (o := .lst (ss.map .int)) hl2
    have e2 : isL (su S4 l2 (.lst (ss.map .int))) l2 := isL_self
    generalize su S4 l2 (.lst (ss.map .int)) = S5 at h7 e2 ⊢
    have hj : decide (j < 3) = false := hj
    have hj : ¬ j < 3 := of_decide_eq_false hj
    refine ⟨_, rfl, ⟨_, rfl, (show 1 ≤ sizeLine by decide), ⟨by rw [sizeLine_eq]; show (ss.map D.int).length + 1 ≤ _; omega, ?_⟩⟩⟩
    refine ⟨_, rfl, ⟨_, rfl, ⟨_, rfl, ⟨_, rfl, ⟨_, rfl, ⟨_, rfl, ⟨_, rfl, ⟨_, rfl, ?_⟩⟩⟩⟩⟩⟩⟩⟩
    have le : (cutI (ss.map D.int) none (some t)).length + (cutI (ss.map D.int) (some (t + 1)) none).length ≤ 100 := by omega
    refine ⟨by rw [sizeLine_eq]; exact Nat.le_trans le (by decide), ?_⟩
    refine ⟨_, rfl, (show 3 ≤ sizeLine by decide), ⟨_, rfl, ?_⟩⟩
    refine idx_any (by omega) (show j - 3 < ((3 : Nat) : Int) by omega) fun z hz => ?_
    have key : good S5 z ∧ ∀ ds, z = .tup ds → ds.length ≤ 1000 := by
      simp only [List.mem_cons, List.not_mem_nil, or_false] at hz
      rcases hz with rfl | rfl | rfl
      · exact ⟨good_no (okD_ref e2) (fun ds e => by cases e), fun ds e => by cases e⟩
      · refine ⟨good_tup fun d hd => ?_, fun ds e => by cases e; rw [List.length_append, List.length_singleton]; omega⟩
        rcases List.mem_append.mp hd with hd | hd
        · exact ok_int hd
        · have e : d = .int 0 := by simpa using hd
          subst e; exact okD_no fun a e => by cases e
      · refine ⟨good_tup fun d hd => ?_, fun ds e => by cases e; rw [List.length_append]; omega⟩
        rcases List.mem_append.mp hd with hd | hd
        · exact ok_int (cut_mem hd)
        · exact ok_int (cut_mem hd)
    exact w _ _ _ _ h7 key.1 key.2
end LW

namespace LW
open PySem L2 PySem.Spec PyProof.Rows DL
local macro_rules | `(tactic| walk_at "dl_ok") => `(tactic| first | exact okD_ref (by assumption) | exact okD_no (fun a e => by cases e))
theorem rep_mem {α : Type} {x y : α} {k : Nat} (h : y ∈ repD [x] k) : y = x := by
  unfold repD at h
  obtain ⟨l, h1, h2⟩ := List.mem_flatten.mp h
  rw [(List.mem_replicate.mp h1).2] at h2
  simpa using h2
theorem rep_len {α : Type} (xs : List α) : ∀ k : Nat, (repD xs k).length = k * xs.length
  | 0 => by simp [repD]
  | k + 1 => by
    have := rep_len xs k
    unfold repD at this ⊢
    rw [List.replicate_succ, List.flatten_cons, List.length_append, this, Nat.succ_mul, Nat.add_comm]
theorem stateD_yes {a b : Int} {ss : List Int} (a1 : 1 ≤ a) (hl : ss.length = a.toNat) (hs : ∀ s ∈ ss, 0 ≤ s ∧ s < b) : stateD a b (.tup (ss.map .int)) = true := by
  show (decide (((ss.map D.int).length : Int) = a) && (ss.map D.int).all (betD 0 (b - 1))) = true
  rw [Bool.and_eq_true]
  refine ⟨decide_eq_true (by simp; omega), List.all_eq_true.mpr fun d hd => ?_⟩
  obtain ⟨i, hi, rfl⟩ := List.mem_map.mp hd
  have := hs i hi
  show (decide (0 ≤ i) && decide (i ≤ b - 1)) = true
  rw [Bool.and_eq_true]
  exact ⟨decide_eq_true this.1, decide_eq_true (by omega)⟩
theorem law_ok2 {T : Tbl} (h1 : T.fn 1 = some f_is_whole) (h2 : T.fn 2 = some f_is_between) (h4 : T.fn 4 = some f_law_pen) (h5 : T.fn 5 = some f_law_take) (h6 : T.fn 6 = some f_law_world) (h7 : T.fn 7 = some f_law_state) (h12 : T.fn 12 = some f_is_state) (h13 : T.fn 13 = some f_law_bent_2)
    (h14 : T.fn 14 = some f_law_due_2) (h15 : T.fn 15 = some f_law_answers_2) (hT : T.fn 16 = some f_law_2) (n : Nat) {ns : List Int} : cal T (n + 5) 16 [.fz (ns.map D.int)] (fun _ => none) fun r _ => r = .d (.bl true) := by
  refine ⟨_, hT, rfl, rfl, ?_⟩
  have c4 := fun Q => pen_ok h4 (n + 3) (ns := ns) (S := fun _ => none) (Q := Q)
  have c6 := fun S p q ns k r Q => world_ok h5 h6 (n + 2) (S := S) (p := p) (q := q) (ns := ns) (k := k) (r := r) (Q := Q)
  have c7 := fun S p q ns k r a b Q => state_ok h5 h7 (n + 2) (S := S) (p := p) (q := q) (ns := ns) (k := k) (r := r) (a := a) (b := b) (Q := Q)
  have c12 := fun S x a b Q => is_state_ok h1 h2 h12 (n + 1) (S := S) (x := x) (a := a) (b := b) (Q := Q)
  have c15 := fun S x a b Q => answers2_ok h1 h2 h12 h14 h15 n (S := S) (x := x) (a := a) (b := b) (Q := Q)
  have c13 := fun S p q ns ss k r a b Q => bent2_ok h5 h13 (n + 2) (S := S) (p := p) (q := q) (ns := ns) (ss := ss) (k := k) (r := r) (a := a) (b := b) (Q := Q)
  generalize cal T (n + 4) = c at c4 c6 c7 c12 c15 c13 ⊢
  refine ⟨_, rfl, c4 _ fun q hq ns => ?_⟩
  refine ⟨_, rfl, fun p hp => ?_⟩
  have hne : q ≠ p := fun e => by subst e; rw [su_same] at hp; cases hp
  have h0 : PenAt (su (su (fun _ => none) q (.lst (ns.map .int))) p (.lst [.ref q, .int 0, .int 0])) p q ns 0 0 := ⟨su_same, by rw [su_ne hne]; exact su_same, hne, by decide, by decide⟩
  generalize su (su (fun _ => none) q (.lst (ns.map .int))) p (.lst [.ref q, .int 0, .int 0]) = S0 at h0 ⊢
  refine ⟨_, rfl, by decide, by decide, ?_⟩
  refine forL_inv (fun σ S => ∃ s0 s2 s3 s4 s5 k r, σ = [s0, some (.d (.ref p)), s2, s3, s4, s5] ∧ PenAt S p q ns k r) (fun _ _ _ => trivial) (fun _ _ _ => rfl) _ ?_ _ _ ⟨_, _, _, _, _, _, _, rfl, h0⟩
  rintro x _ k σ S hk ⟨s0, s2, s3, s4, s5, k0, r0, rfl, h⟩
  refine ⟨_, rfl, c6 _ _ _ _ _ _ _ h fun a b k1 r1 a1 a6 b2 b3 k10 r10 => ?_⟩
  have hp1 := h.up k10 r10
  generalize su S p (.lst [.ref q, .int k1, .int r1]) = S1 at hp1 ⊢
  refine ⟨_, rfl, ⟨_, rfl, c7 _ _ _ _ _ _ _ _ _ hp1 a1 a6 b2 b3 fun ss k2 r2 hl hs k20 r20 => ?_⟩⟩
  have hp2 := hp1.up k20 r20
  generalize su S1 p (.lst [.ref q, .int k2, .int r2]) = S2 at hp2 ⊢
  have len1 : ∀ ds, D.tup (ss.map D.int) = .tup ds → ds.length ≤ 1000 := fun ds e => by cases e; simp; omega
  refine ⟨_, rfl, ⟨_, rfl, c12 _ _ _ _ _ (good_tup fun d hd => ok_int hd) len1 ?_⟩⟩
  rw [stateD_yes a1 hl hs]
  refine ⟨_, rfl, Br.mk (fun z => by cases z) (fun _ => ?_)⟩
  refine ⟨_, rfl, ⟨_, rfl, ⟨_, rfl, ⟨_, rfl, c13 _ _ _ _ _ _ _ _ _ _ hp2 a1 a6 hl hs b3 fun y S3 k3 r3 hp3 gy ly => ?_⟩⟩⟩⟩
  refine c15 _ _ _ _ _ gy ly (Br.mk (fun z => by cases z) (fun _ => ?_))
  refine ⟨_, rfl, ⟨_, rfl, ⟨_, rfl, (show 1 ≤ sizeLine by decide), ⟨_, rfl, ⟨_, rfl, ⟨⟨by omega, by omega, (show 1 ≤ 1000 by decide)⟩, ?_⟩⟩⟩⟩⟩⟩
  refine ⟨_, rfl, ⟨_, rfl, ⟨_, rfl, (show 1 ≤ sizeLine by decide), ⟨_, rfl, ⟨_, rfl, ⟨⟨by omega, by omega, (show 1 ≤ 1000 by decide)⟩, ?_⟩⟩⟩⟩⟩⟩
  refine ⟨_, rfl, (show 0 ≤ sizeLine by decide), ?_⟩
  refine ⟨_, rfl, (show 1 ≤ sizeLine by decide), ⟨_, rfl, ⟨_, rfl, ⟨by omega, ⟨by omega, by rw [sizeLine_eq]; show 1 * a.toNat ≤ _; omega, ?_⟩⟩⟩⟩⟩
  intro l hl3
  refine ⟨_, rfl, ⟨_, rfl, (show 8 ≤ sizeLine by decide), ?_⟩⟩
  have hp4 := hp3.alloc (o := .lst (repD [.int 0] a.toNat)) hl3
  have el : isL (su S3 l (.lst (repD [.int 0] a.toNat))) l := isL_self
  generalize su S3 l (.lst (repD [.int 0] a.toNat)) = S4 at hp4 el ⊢
  have turn : ∀ (x : D), good S4 x → (∀ ds, x = .tup ds → ds.length ≤ 1000) → ∀ (nx k2 : SK2) (rt : VK2) σ S, (∀ σ S, (∃ s0 s2 s4 s5, σ = [s0, some (.d (.ref p)), s2, some (.d (.tup [.int a, .int b])), s4, s5] ∧ S = S4) → k2 σ S) → (∃ s0 s2 s4 s5, σ = [s0, some (.d (.ref p)), s2, some (.d (.tup [.int a, .int b])), s4, s5] ∧ S = S4) →
      bindT (.nm 5) x σ fun σ' => wpS T c (.iff (.not (.call 15 (.cons (.v 3) (.cons (.v 5) .nil)))) (.ret (.b false)) .skip) σ' S k2 rt nx k2 := by
    rintro x gx lx nx k2 rt σ S hk2 ⟨s0, s2, s4, s5, rfl, rfl⟩
    exact ⟨_, rfl, ⟨_, rfl, c15 _ _ _ _ _ gx lx (Br.mk (fun z => by cases z) (fun _ => hk2 _ _ ⟨_, _, _, _, rfl, rfl⟩))⟩⟩
  have each : ∀ (ds : List D), (∀ x ∈ ds, good S4 x ∧ ∀ es, x = .tup es → es.length ≤ 1000) → ∀ (nx : SK2) (rt : VK2), ∀ x ∈ ds, ∀ (k2 : SK2) σ S, (∀ σ S, (∃ s0 s2 s4 s5, σ = [s0, some (.d (.ref p)), s2, some (.d (.tup [.int a, .int b])), s4, s5] ∧ S = S4) → k2 σ S) → (∃ s0 s2 s4 s5, σ = [s0, some (.d (.ref p)), s2, some (.d (.tup [.int a, .int b])), s4, s5] ∧ S = S4) →
      bindT (.nm 5) x σ fun σ' => wpS T c (.iff (.not (.call 15 (.cons (.v 3) (.cons (.v 5) .nil)))) (.ret (.b false)) .skip) σ' S k2 rt nx k2 := fun ds h nx rt x hx k2 => turn x (h x hx).1 (h x hx).2 nx k2 rt
  refine forL_inv (fun σ S => ∃ s0 s2 s4 s5, σ = [s0, some (.d (.ref p)), s2, some (.d (.tup [.int a, .int b])), s4, s5] ∧ S = S4) (fun _ _ _ => trivial) ?_ _ (each _ ?_ _ _) _ _ ⟨_, _, _, _, rfl, rfl⟩
  · rintro σ S ⟨s0, s2, s4, s5, rfl, rfl⟩
    exact hk _ _ ⟨_, _, _, _, _, _, _, rfl, hp4⟩
  · have r1 : ∀ (i : Int), good S4 (.tup (repD [.int i] a.toNat)) ∧ ∀ es, D.tup (repD [.int i] a.toNat) = .tup es → es.length ≤ 1000 := fun i =>
      ⟨good_tup fun d hd => by rw [rep_mem hd]; walk_at "dl_ok", fun es e => by cases e; rw [rep_len]; simp; omega⟩
    refine List.forall_mem_cons.mpr ⟨r1 _, List.forall_mem_cons.mpr ⟨r1 _, List.forall_mem_cons.mpr ⟨⟨good_tup (List.forall_mem_nil _), fun es e => by cases e; decide⟩, ?_⟩⟩⟩
    refine List.forall_mem_cons.mpr ⟨⟨good_no (by walk_at "dl_ok") (fun ds e => by cases e), fun es e => by cases e⟩, List.forall_mem_cons.mpr ⟨⟨good_no (by walk_at "dl_ok") (fun ds e => by cases e), fun es e => by cases e⟩, List.forall_mem_cons.mpr ⟨⟨good_no (by walk_at "dl_ok") (fun ds e => by cases e), fun es e => by cases e⟩, ?_⟩⟩⟩
    refine List.forall_mem_cons.mpr ⟨⟨good_no (okD_ref el) (fun ds e => by cases e), fun es e => by cases e⟩, List.forall_mem_cons.mpr ⟨⟨good_tup (List.forall_mem_cons.mpr ⟨by walk_at "dl_ok", List.forall_mem_cons.mpr ⟨by walk_at "dl_ok", List.forall_mem_nil _⟩⟩), fun es e => by cases e; show 2 ≤ 1000; decide⟩, List.forall_mem_nil _⟩⟩
end LW

namespace LW
open PySem L2 PySem.Spec PyProof.Rows DL
/-! dealings as data -/
inductive Deed where
  | look (h b : Int) | put (b h : Int) | set (h n : Int) | plus (g h : Int) | leap (h n : Int) | wait | try_ (one other : List Deed)
abbrev sLook : D := .str [108, 111, 111, 107]
abbrev sPut : D := .str [112, 117, 116]
abbrev sSet : D := .str [115, 101, 116]
abbrev sPlus : D := .str [112, 108, 117, 115]
abbrev sLeap : D := .str [108, 101, 97, 112]
abbrev sWait : D := .str [119, 97, 105, 116]
abbrev sTry : D := .str [116, 114, 121]
mutual
def encD : Deed → D
  | .look h b => .tup [sLook, .int h, .int b]
  | .put b h => .tup [sPut, .int b, .int h]
  | .set h n => .tup [sSet, .int h, .int n]
  | .plus g h => .tup [sPlus, .int g, .int h]
  | .leap h n => .tup [sLeap, .int h, .int n]
  | .wait => .tup [sWait]
  | .try_ a b => .tup [sTry, .tup (encs a), .tup (encs b)]
def encs : List Deed → List D
  | [] => []
  | d :: ds => encD d :: encs ds
end
mutual
def sizeD : Deed → Nat
  | .try_ a b => 1 + sizes a + sizes b
  | _ => 1
def sizes : List Deed → Nat
  | [] => 0
  | d :: ds => sizeD d + sizes ds
end
mutual
def depD : Deed → Nat
  | .try_ a b => 1 + max (deps a) (deps b)
  | _ => 0
def deps : List Deed → Nat
  | [] => 0
  | d :: ds => max (depD d) (deps ds)
end
/-! a deed of a world of n boxes, numbers below w -/
mutual
def okDeed (n w : Int) : Deed → Prop
  | .look h b => 0 ≤ h ∧ h < 4 ∧ 0 ≤ b ∧ b < n
  | .put b h => 0 ≤ h ∧ h < 4 ∧ 0 ≤ b ∧ b < n
  | .set h x => 0 ≤ h ∧ h < 4 ∧ 0 ≤ x ∧ x < w
  | .plus g h => 0 ≤ g ∧ g < 4 ∧ 0 ≤ h ∧ h < 4
  | .leap h x => 0 ≤ h ∧ h < 4 ∧ 1 ≤ x ∧ x ≤ 12
  | .wait => True
  | .try_ a b => (okDeeds n w a ∧ a.length ≤ 12) ∧ okDeeds n w b ∧ b.length ≤ 12
def okDeeds (n w : Int) : List Deed → Prop
  | [] => True
  | d :: ds => okDeed n w d ∧ okDeeds n w ds
end
theorem encs_append : ∀ (a b : List Deed), encs (a ++ b) = encs a ++ encs b
  | [], _ => rfl
  | d :: a, b => by simp [encs, encs_append a b]
theorem encs_length : ∀ (a : List Deed), (encs a).length = a.length
  | [] => rfl
  | d :: a => by simp [encs, encs_length a]
theorem sizes_append : ∀ (a b : List Deed), sizes (a ++ b) = sizes a + sizes b
  | [], _ => by simp [sizes]
  | d :: a, b => by simp [sizes, sizes_append a b]; omega
theorem okDeeds_append {n w : Int} : ∀ {a b : List Deed}, okDeeds n w a → okDeeds n w b → okDeeds n w (a ++ b)
  | [], _, _, h => h
  | d :: a, b, h, h' => ⟨h.1, okDeeds_append h.2 h'⟩
theorem deps_append : ∀ (a b : List Deed), deps (a ++ b) = max (deps a) (deps b)
  | [], _ => by simp [deps]
  | d :: a, b => by simp [deps, deps_append a b, Nat.max_assoc]
theorem encs_mem {x : D} : ∀ {ds : List Deed}, x ∈ encs ds → ∃ d ∈ ds, x = encD d
  | [], h => by cases h
  | d :: ds, h => by
    rcases List.mem_cons.mp h with rfl | h
    · exact ⟨d, List.mem_cons_self, rfl⟩
    · obtain ⟨e, h1, h2⟩ := encs_mem h
      exact ⟨e, List.mem_cons_of_mem _ h1, h2⟩
theorem deps_mem {d : Deed} : ∀ {ds : List Deed}, d ∈ ds → depD d ≤ deps ds
  | [], h => by cases h
  | e :: ds, h => by
    rcases List.mem_cons.mp h with rfl | h
    · exact Nat.le_max_left _ _
    · exact Nat.le_trans (deps_mem h) (Nat.le_max_right _ _)
/-- the first sign of a deed: is it a try? -/
theorem is_try {T : Tbl} {c : Nat → List Vx → Hs → VK2 → Prop} {σ : Sl} {S : Hs} {i : Nat} {d : Deed} {P : LK2} (e : σ[i]? = some (some (.d (encD d)))) (w : P [.d (.bl (match d with | .try_ _ _ => true | _ => false))] S) : wpE T c (.o2 .eq (.o2 .idx (.v i) (.i 0)) (.s [116, 114, 121])) σ S P := by
  cases d <;> exact ⟨_, e, ⟨_, rfl, rfl, rfl, w⟩⟩
/-- how many deeds, two ways -/
theorem size_ok {T : Tbl} (hT : T.fn 23 = some f_law_size) : ∀ (m : Nat) (ds : List Deed) (S : Hs) (Q : VK2), deps ds < m → Q (.d (.int (sizes ds))) S → cal T m 23 [.d (.tup (encs ds))] S Q
  | 0, ds, S, Q, h, _ => by omega
  | m + 1, ds, S, Q, h, w => by
    refine ⟨_, hT, rfl, rfl, ?_⟩
    have ih := size_ok hT m
    generalize cal T m = c at ih ⊢
    have key : ∀ (es ds0 : List Deed) (k : Nat) (σ : Sl), ds = ds0 ++ es → k = sizes ds0 → (∃ s2, σ = [some (.d (.tup (encs ds))), some (.d (.int k)), s2]) → forL (.nm 2) (fun _ _ => True) (fun k σ' S' => wpS T c (.seq (.set 1 (.o2 .add (.v 1) (.i 1))) (.iff (.o2 .eq (.o2 .idx (.v 2) (.i 0)) (.s [116, 114, 121])) (.set 1 (.o2 .add (.o2 .add (.v 1) (.call 23 (.cons (.o2 .idx (.v 2) (.i 1)) .nil))) (.call 23 (.cons (.o2 .idx (.v 2) (.i 2)) .nil)))) .skip)) σ' S' k Q (fun σ' S' => wpS T c (.retv 1) σ' S' (fun _ S' => Q (.d .non) S') Q (fun _ _ => False) (fun _ _ => False)) k) (fun σ' S' => wpS T c (.retv 1) σ' S' (fun _ S' => Q (.d .non) S') Q (fun _ _ => False) (fun _ _ => False)) (encs es) σ S := by
      intro es
      induction es with
      | nil =>
        rintro ds0 k σ e rfl ⟨s2, rfl⟩
        rw [List.append_nil] at e
        subst e
        exact ⟨trivial, _, rfl, w⟩
      | cons d es ihs =>
        rintro ds0 k σ e rfl ⟨s2, rfl⟩
        have hd : d ∈ ds := by rw [e]; simp
        refine ⟨trivial, ⟨_, rfl, ?_⟩⟩
        refine is_try rfl ?_
        have next : ∀ k', k' = sizes (ds0 ++ [d]) → _ := fun k' hk => ihs (ds0 ++ [d]) k' [some (.d (.tup (encs ds))), some (.d (.int k')), some (.d (encD d))] (by rw [e]; simp) hk ⟨_, rfl⟩
        cases d with
        | try_ a b =>
          have hdep := deps_mem hd
          have hab : 1 + max (deps a) (deps b) ≤ deps ds := hdep
          refine Br.mk (fun _ => ?_) (fun z => by cases z)
          refine ⟨_, rfl, ⟨_, rfl, ⟨_, rfl, ih a S _ (by omega) ?_⟩⟩⟩
          refine ⟨_, rfl, ⟨_, rfl, ih b S _ (by omega) ?_⟩⟩
          have hk : sizes ds0 + 1 + sizes a + sizes b = sizes (ds0 ++ [.try_ a b]) := by rw [sizes_append]; simp [sizes, sizeD]; omega
          have ee : ((sizes ds0 : Int) + 1 + (sizes a : Int) + (sizes b : Int)) = ((sizes ds0 + 1 + sizes a + sizes b : Nat) : Int) := by omega
          have := next _ hk
          show forL _ _ _ _ _ [some (.d (.tup (encs ds))), some (.d (.int ((sizes ds0 : Int) + 1 + (sizes a : Int) + (sizes b : Int)))), some (.d (encD (.try_ a b)))] S
          rw [ee]
          exact this
        | _ =>
          refine Br.mk (fun z => by cases z) (fun _ => ?_)
          exact next (sizes ds0 + 1) (by rw [sizes_append]; simp [sizes, sizeD])
    exact ⟨_, rfl, key ds [] 0 _ rfl rfl ⟨_, rfl⟩⟩
end LW

namespace LW
open PySem L2 PySem.Spec PyProof.Rows DL
theorem deeds_in_ok {T : Tbl} (hT : T.fn 21 = some f_deeds_in) : ∀ (m : Nat) (ds : List Deed) (S : Hs) (Q : VK2), deps ds < m → Q (.d (.int (sizes ds))) S → cal T m 21 [.d (.tup (encs ds))] S Q
  | 0, ds, S, Q, h, _ => by omega
  | m + 1, ds, S, Q, h, w => by
    refine ⟨_, hT, rfl, rfl, ?_⟩
    have ih := deeds_in_ok hT m
    generalize cal T m = c at ih ⊢
    have key : ∀ (es ds0 : List Deed) (k : Nat) (σ : Sl), ds = ds0 ++ es → k + ds0.length = ds.length + sizes ds0 → (∃ s2, σ = [some (.d (.tup (encs ds))), some (.d (.int k)), s2]) → forL (.nm 2) (fun _ _ => True) (fun k σ' S' => wpS T c (.iff (.o2 .eq (.o2 .idx (.v 2) (.i 0)) (.s [116, 114, 121])) (.set 1 (.o2 .add (.o2 .add (.v 1) (.call 21 (.cons (.o2 .idx (.v 2) (.i 1)) .nil))) (.call 21 (.cons (.o2 .idx (.v 2) (.i 2)) .nil)))) .skip) σ' S' k Q (fun σ' S' => wpS T c (.retv 1) σ' S' (fun _ S' => Q (.d .non) S') Q (fun _ _ => False) (fun _ _ => False)) k) (fun σ' S' => wpS T c (.retv 1) σ' S' (fun _ S' => Q (.d .non) S') Q (fun _ _ => False) (fun _ _ => False)) (encs es) σ S := by
      intro es
      induction es with
      | nil =>
        rintro ds0 k σ e hk ⟨s2, rfl⟩
        rw [List.append_nil] at e
        subst e
        have : k = sizes ds := by omega
        subst this
        exact ⟨trivial, _, rfl, w⟩
      | cons d es ihs =>
        rintro ds0 k σ e hk ⟨s2, rfl⟩
        have hd : d ∈ ds := by rw [e]; simp
        refine ⟨trivial, ?_⟩
        refine is_try rfl ?_
        have next : ∀ k', k' + (ds0 ++ [d]).length = ds.length + sizes (ds0 ++ [d]) → _ := fun k' hk => ihs (ds0 ++ [d]) k' [some (.d (.tup (encs ds))), some (.d (.int k')), some (.d (encD d))] (by rw [e]; simp) hk ⟨_, rfl⟩
        cases d with
        | try_ a b =>
          have hdep := deps_mem hd
          have hab : 1 + max (deps a) (deps b) ≤ deps ds := hdep
          refine Br.mk (fun _ => ?_) (fun z => by cases z)
          refine ⟨_, rfl, ⟨_, rfl, ⟨_, rfl, ih a S _ (by omega) ?_⟩⟩⟩
          refine ⟨_, rfl, ⟨_, rfl, ih b S _ (by omega) ?_⟩⟩
          have hk2 : (k + sizes a + sizes b) + (ds0 ++ [Deed.try_ a b]).length = ds.length + sizes (ds0 ++ [.try_ a b]) := by rw [sizes_append]; simp [sizes, sizeD]; omega
          have ee : ((k : Int) + (sizes a : Int) + (sizes b : Int)) = ((k + sizes a + sizes b : Nat) : Int) := by omega
          have := next _ hk2
          show forL _ _ _ _ _ [some (.d (.tup (encs ds))), some (.d (.int ((k : Int) + (sizes a : Int) + (sizes b : Int)))), some (.d (encD (.try_ a b)))] S
          rw [ee]
          exact this
        | _ =>
          refine Br.mk (fun z => by cases z) (fun _ => ?_)
          exact next k (by rw [sizes_append]; simp [sizes, sizeD]; omega)
    refine ⟨_, rfl, _, rfl, ⟨_, rfl, ?_⟩⟩
    have e0 : ((encs ds).length : Int) = ((ds.length : Nat) : Int) := by rw [encs_length]
    show forL _ _ _ _ _ [some (.d (.tup (encs ds))), some (.d (.int ((encs ds).length : Int))), none] S
    rw [e0]
    exact key ds [] ds.length _ rfl (by simp [sizes]) ⟨_, rfl⟩
theorem plain_deed_ok {T : Tbl} (h5 : T.fn 5 = some f_law_take) (hT : T.fn 24 = some f_law_plain_deed) (n : Nat) {S : Hs} {p q : Addr} {ns : List Int} {k r a b way hand : Int} {Q : VK2} (h : PenAt S p q ns k r) (a1 : 1 ≤ a) (a6 : a ≤ 6) (b2 : 2 ≤ b) (b3 : b ≤ 1000) (h0 : 0 ≤ hand) (h4 : hand < 4)
    (w : ∀ (d : Deed) (k' r' : Int), okDeed a b d → sizeD d = 1 → depD d = 0 → 0 ≤ k' → 0 ≤ r' → Q (.d (encD d)) (su S p (.lst [.ref q, .int k', .int r']))) : cal T (n + 2) 24 [.d (.ref p), .d (.tup [.int a, .int b]), .d (.int way), .d (.int hand)] S Q := by
  refine ⟨_, hT, rfl, rfl, ?_⟩
  have ht := fun (S : Hs) (k r m : Int) Q (h : PenAt S p q ns k r) => take_ok h5 n (m := m) (Q := Q) h
  generalize cal T (n + 1) = c at ht ⊢
  have lb : ∀ m : Int, 0 < m → m ≤ 1000 → m.natAbs.log2 < 9000 := fun m _ _ => Nat.lt_of_le_of_lt (Nat.log2_le_self _) (by omega)
  refine ⟨_, rfl, Br.mk (fun _ => ?_) (fun _ => ?_)⟩
  · exact ⟨_, rfl, ⟨_, rfl, ⟨_, rfl, ⟨_, rfl, ht _ _ _ _ _ h (by omega) (lb _ (by omega) (by omega)) fun f k1 r1 f0 f1 k10 r10 => ⟨_, rfl, (show 3 ≤ sizeLine by decide), w (.look hand f) _ _ ⟨h0, h4, f0, f1⟩ rfl rfl k10 r10⟩⟩⟩⟩⟩
  refine ⟨_, rfl, Br.mk (fun _ => ?_) (fun _ => ?_)⟩
  · exact ⟨_, rfl, ⟨_, rfl, ⟨_, rfl, ht _ _ _ _ _ h (by omega) (lb _ (by omega) (by omega)) fun f k1 r1 f0 f1 k10 r10 => ⟨_, rfl, ⟨_, rfl, (show 3 ≤ sizeLine by decide), w (.put f hand) _ _ ⟨h0, h4, f0, f1⟩ rfl rfl k10 r10⟩⟩⟩⟩⟩
  refine ⟨_, rfl, Br.mk (fun _ => ?_) (fun _ => ?_)⟩
  · exact ⟨_, rfl, ⟨_, rfl, ⟨_, rfl, ⟨_, rfl, ht _ _ _ _ _ h (by omega) (lb _ (by omega) (by omega)) fun f k1 r1 f0 f1 k10 r10 => ⟨_, rfl, (show 3 ≤ sizeLine by decide), w (.set hand f) _ _ ⟨h0, h4, f0, f1⟩ rfl rfl k10 r10⟩⟩⟩⟩⟩
  refine ⟨_, rfl, Br.mk (fun _ => ?_) (fun _ => ?_)⟩
  · exact ⟨_, rfl, ⟨_, rfl, ht _ _ _ _ _ h (by omega) (lb _ (by omega) (by omega)) fun f k1 r1 f0 f1 k10 r10 => ⟨_, rfl, (show 3 ≤ sizeLine by decide), w (.plus hand f) _ _ ⟨h0, h4, f0, f1⟩ rfl rfl k10 r10⟩⟩⟩
  refine ⟨_, rfl, ⟨_, rfl, ⟨_, rfl, (show 2 ≤ sizeLine by decide), ⟨_, rfl, ht _ _ _ _ _ h (by omega) (lb _ (by omega) (by omega)) fun i k1 r1 i0 i1 k10 r10 => ?_⟩⟩⟩⟩
  have hi : i = 0 ∨ i = 1 := by omega
  have h1 := h.up k10 r10
  rcases hi with rfl | rfl
  · refine ⟨_, rfl, ht _ _ _ _ _ h1 (by omega) (lb _ (by omega) (by omega)) fun f k2 r2 f0 f1 k20 r20 => ⟨_, rfl, (show 3 ≤ sizeLine by decide), ?_⟩⟩
    rw [su_su]
    exact w (.leap hand (1 + f)) _ _ ⟨h0, h4, by omega, by omega⟩ rfl rfl k20 r20
  · refine ⟨_, rfl, ht _ _ _ _ _ h1 (by omega) (lb _ (by omega) (by omega)) fun f k2 r2 f0 f1 k20 r20 => ⟨_, rfl, (show 3 ≤ sizeLine by decide), ?_⟩⟩
    rw [su_su]
    exact w (.leap hand (1 + f)) _ _ ⟨h0, h4, by omega, by omega⟩ rfl rfl k20 r20
end LW

namespace LW
open PySem L2 PySem.Spec PyProof.Rows DL
theorem lbnd {m : Int} (h0 : 0 < m) (h1 : m ≤ 1000) : m.natAbs.log2 < 9000 := Nat.lt_of_le_of_lt (Nat.log2_le_self _) (by omega)
theorem enc1 (ds : List Deed) (d : Deed) : encs ds ++ [encD d] = encs (ds ++ [d]) := by simp [encs_append, encs]
theorem sz_lt12 {n : Nat} (h : n < 12) : n < sizeLine := Nat.lt_of_lt_of_le h (by decide)
theorem dealing_ok {T : Tbl} (h5 : T.fn 5 = some f_law_take) (h23 : T.fn 23 = some f_law_size) (h24 : T.fn 24 = some f_law_plain_deed) (hT : T.fn 25 = some f_law_dealing) {p q : Addr} {ns : List Int} {a b : Int} (a1 : 1 ≤ a) (a6 : a ≤ 6) (b2 : 2 ≤ b) (b3 : b ≤ 1000) :
    ∀ (t n : Nat) (S : Hs) (k r room : Int) (Q : VK2), PenAt S p q ns k r → 0 ≤ room → room ≤ 1000 → (∀ (ds : List Deed) (k' r' : Int), (sizes ds : Int) ≤ room → ds.length ≤ 12 → okDeeds a b ds → deps ds ≤ t → 0 ≤ k' → 0 ≤ r' → Q (.d (.tup (encs ds))) (su S p (.lst [.ref q, .int k', .int r']))) →
      cal T (n + 4 + t) 25 [.d (.ref p), .d (.tup [.int a, .int b]), .d (.int room), .d (.int (t : Int))] S Q := by
  intro t
  induction t using Nat.strongRecOn with
  | _ t ih =>
  intro n S k r room Q h r0 r1000 w
  have e4 : n + 4 + t = (n + 3 + t) + 1 := by omega
  rw [e4]
  refine ⟨_, hT, rfl, rfl, ?_⟩
  have ht : ∀ (S : Hs) (k r m : Int) Q, PenAt S p q ns k r → _ := fun S k r m Q h => by
    have := take_ok h5 (n + 2 + t) (m := m) (Q := Q) h
    rw [show n + 2 + t + 1 = n + 3 + t by omega] at this
    exact this
  have hp : ∀ (S : Hs) (k r way hand : Int) Q, PenAt S p q ns k r → _ := fun S k r way hand Q h => by
    have := plain_deed_ok h5 h24 (n + 1 + t) (way := way) (hand := hand) (Q := Q) h a1 a6 b2 b3
    rw [show n + 1 + t + 2 = n + 3 + t by omega] at this
    exact this
  have hz := fun ds S Q => size_ok h23 (n + 3 + t) ds S Q
  have hd : ∀ (S : Hs) (k r room : Int) Q, 1 ≤ t → _ := fun S k r room Q ht => by
    have := ih (t - 1) (by omega) n S k r room Q
    rw [show n + 4 + (t - 1) = n + 3 + t by omega] at this
    exact this
  have lvl : t < n + 3 + t := by omega
  generalize cal T (n + 3 + t) = c at ht hp hz hd ⊢
  have hm : 0 < (if room < 12 then room else 12) + 1 ∧ (if room < 12 then room else 12) + 1 ≤ 1000 := by split <;> omega
  refine ⟨_, rfl, (show 0 ≤ sizeLine by decide), ⟨_, rfl, ⟨_, rfl, ⟨_, rfl, ht _ _ _ _ _ h hm.1 (lbnd hm.1 hm.2) fun f k1 r1 f0 f1 k10 r10 => ?_⟩⟩⟩⟩
  refine ⟨_, rfl, by have := hm.2; omega, by omega, ?_⟩
  refine forL_inv (fun σ S' => ∃ ds l s6 s7 s8 s9 s10 k r, σ = [some (.d (.ref p)), some (.d (.tup [.int a, .int b])), some (.d (.int room)), some (.d (.int (t : Int))), some (.vl (encs ds)), some (.d (.int l)), s6, s7, s8, s9, s10] ∧
    0 ≤ l ∧ (sizes ds : Int) + l = room ∧ ds.length ≤ 12 ∧ okDeeds a b ds ∧ deps ds ≤ t ∧ 0 ≤ k ∧ 0 ≤ r ∧ S' = su S p (.lst [.ref q, .int k, .int r])) (fun _ _ _ => trivial) ?_ _ ?_ _ _
    ⟨[], room, _, _, _, _, _, k1, r1, rfl, r0, by simp [sizes], by simp, trivial, by simp [deps], k10, r10, rfl⟩
  · rintro σ S' ⟨ds, l, s6, s7, s8, s9, s10, k, r, rfl, l0, hsz, hlen, hok, hdp, k0, r0', rfl⟩
    exact ⟨_, rfl, ⟨_, rfl, w ds k r (by omega) hlen hok hdp k0 r0'⟩⟩
  · rintro x _ kk σ S' hk ⟨ds, l, s6, s7, s8, s9, s10, k, r, rfl, l0, hsz, hlen, hok, hdp, k0, r0', rfl⟩
    have h1 := h.up k0 r0'
    refine ⟨_, rfl, ht _ _ _ _ _ h1 (by decide) (by decide) fun way k2 r2 w0 w1 k20 r20 => ?_⟩
    rw [su_su]
    have h2 := h.up k20 r20
    refine ⟨_, rfl, ht _ _ _ _ _ h2 (by decide) (by decide) fun hand k3 r3 hd0 hd4 k30 r30 => ?_⟩
    rw [su_su]
    have h3 := h.up k30 r30
    refine ⟨_, rfl, ?_⟩
    have hel : (((encs ds).length : Nat) : Int) = (ds.length : Int) := by rw [encs_length]
    -- one deed more
    have app : ∀ (d : Deed) (l' : Int) (S' : Hs) (s7 s8 s9 s10 : Option Vx) (k' r' : Int), 0 ≤ l' → (sizeD d : Int) + l' = l → ds.length < 12 → okDeed a b d → depD d ≤ t → 0 ≤ k' → 0 ≤ r' → S' = su S p (.lst [.ref q, .int k', .int r']) →
        kk [some (.d (.ref p)), some (.d (.tup [.int a, .int b])), some (.d (.int room)), some (.d (.int (t : Int))), some (.vl (encs ds ++ [encD d])), some (.d (.int l')), some (.d x), s7, s8, s9, s10] S' := fun d l' S' s7 s8 s9 s10 k' r' p1 p2 p3 p4 p5 p6 p7 p8 =>
      hk _ _ ⟨ds ++ [d], l', _, _, _, _, _, k', r', by rw [enc1], p1, by rw [sizes_append]; simp [sizes]; omega, by simp; omega, okDeeds_append hok ⟨p4, trivial⟩, by rw [deps_append]; simp [deps]; omega, p6, p7, p8⟩
    have stay : kk [some (.d (.ref p)), some (.d (.tup [.int a, .int b])), some (.d (.int room)), some (.d (.int (t : Int))), some (.vl (encs ds)), some (.d (.int l)), some (.d x), some (.d (.int way)), some (.d (.int hand)), s9, s10] (su S p (.lst [.ref q, .int k3, .int r3])) :=
      hk _ _ ⟨ds, l, _, _, _, _, _, k3, r3, rfl, l0, hsz, hlen, hok, hdp, k30, r30, rfl⟩
    -- the last branch
    have third : (0 < l → ds.length < 12 → t ≠ 0 → 1 ≤ t) := fun _ _ z => by omega
    have wait2 : 0 < l → ds.length < 12 → ∀ (S3 : Hs) (k3 r3 : Int), 0 ≤ k3 → 0 ≤ r3 → S3 = su S p (.lst [.ref q, .int k3, .int r3]) → ∀ (es : List Deed) (l' : Int), 0 < l' → es.length < 12 → (sizes es : Int) + l' = room → okDeeds a b es → deps es ≤ t →
        kk [some (.d (.ref p)), some (.d (.tup [.int a, .int b])), some (.d (.int room)), some (.d (.int (t : Int))), some (.vl (encs es ++ [encD .wait])), some (.d (.int (l' - 1))), some (.d x), some (.d (.int way)), some (.d (.int hand)), s9, s10] S3 := fun _ _ S3 k3 r3 p6 p7 p8 es l' q1 q2 q3 q4 q5 =>
      hk _ _ ⟨es ++ [.wait], l' - 1, _, _, _, _, _, k3, r3, by rw [enc1], by omega, by rw [sizes_append]; simp [sizes, sizeD]; omega, by simp; omega, okDeeds_append q4 (show okDeeds a b [Deed.wait] from ⟨(by unfold okDeed; trivial), trivial⟩), by rw [deps_append]; simp [deps, depD]; omega, p6, p7, p8⟩
    by_cases hl : 0 < l
    · by_cases h12 : ds.length < 12
      · have gl : decide ((0 : Int) < l) = true := decide_eq_true hl
        have gd : decide (((encs ds).length : Int) < 12) = true := decide_eq_true (by rw [hel]; omega)
        refine ⟨_, rfl, Br.mk (fun _ => ?_) (fun z => absurd (gl.symm.trans z) (by decide))⟩
        refine ⟨_, rfl, ⟨_, rfl, Br.mk (fun _ => ?_) (fun z => absurd (gd.symm.trans z) (by decide))⟩⟩
        refine ⟨_, rfl, Br.mk (fun hw => ?_) (fun hw => ?_)⟩
        · -- a plain deed
          refine ⟨_, rfl, ⟨_, rfl, ⟨_, rfl, ⟨_, rfl, ⟨_, rfl, hp _ _ _ _ _ _ h3 hd0 hd4 fun d k4 r4 okd szd dpd k40 r40 => ?_⟩⟩⟩⟩⟩
          rw [su_su]
          refine ⟨by rw [encs_length]; exact sz_lt12 h12, ⟨_, rfl, ?_⟩⟩
          exact app d (l - 1) _ _ _ _ _ k4 r4 (by omega) (by omega) h12 okd (by omega) k40 r40 rfl
        · have hw : decide (way < 13) = false := hw
          have hw : ¬ way < 13 := of_decide_eq_false hw
          refine ⟨_, rfl, Br.mk (fun _ => ?_) (fun z => absurd (gl.symm.trans z) (by decide))⟩
          refine ⟨_, rfl, ⟨_, rfl, Br.mk (fun _ => ?_) (fun z => absurd (gd.symm.trans z) (by decide))⟩⟩
          -- waits
          have body2 : wpS T c (.seq (.iff (.and (.o2 .gt (.v 5) (.i 1)) (.and (.o2 .lt (.o1 .len (.v 4)) (.i 11)) (.one (.o2 .gt (.call 5 (.cons (.v 0) (.cons (.i 4) .nil))) (.i 0))))) (.seq (.om .append 4 (.consb (.tup (.consb (.s [108, 101, 97, 112]) (.consb (.v 8) (.consb (.i 1) .nil)))) .nil) none) (.set 5 (.o2 .sub (.v 5) (.i 1)))) .skip) (.seq (.om .append 4 (.consb (.tup (.consb (.s [119, 97, 105, 116]) .nil)) .nil) none) (.set 5 (.o2 .sub (.v 5) (.i 1)))))
              [some (.d (.ref p)), some (.d (.tup [.int a, .int b])), some (.d (.int room)), some (.d (.int (t : Int))), some (.vl (encs ds)), some (.d (.int l)), some (.d x), some (.d (.int way)), some (.d (.int hand)), s9, s10] (su S p (.lst [.ref q, .int k3, .int r3])) kk Q (fun σ' S' => wpS T c (.ret (.o1 .tuple (.v 4))) σ' S' (fun _ S' => Q (.d .non) S') Q (fun _ _ => False) (fun _ _ => False)) kk := by
            have fin : ∀ (S4 : Hs) (k4 r4 : Int), 0 ≤ k4 → 0 ≤ r4 → S4 = su S p (.lst [.ref q, .int k4, .int r4]) → ∀ (es : List Deed) (l' : Int), 0 < l' → es.length < 12 → (sizes es : Int) + l' = room → okDeeds a b es → deps es ≤ t →
                wpS T c (.seq (.om .append 4 (.consb (.tup (.consb (.s [119, 97, 105, 116]) .nil)) .nil) none) (.set 5 (.o2 .sub (.v 5) (.i 1)))) [some (.d (.ref p)), some (.d (.tup [.int a, .int b])), some (.d (.int room)), some (.d (.int (t : Int))), some (.vl (encs es)), some (.d (.int l')), some (.d x), some (.d (.int way)), some (.d (.int hand)), s9, s10] S4 kk Q (fun σ' S' => wpS T c (.ret (.o1 .tuple (.v 4))) σ' S' (fun _ S' => Q (.d .non) S') Q (fun _ _ => False) (fun _ _ => False)) kk := fun S4 k4 r4 p6 p7 p8 es l' q1 q2 q3 q4 q5 =>
              ⟨_, rfl, ⟨_, rfl, (show 1 ≤ sizeLine by decide), ⟨by rw [encs_length]; exact sz_lt12 q2, ⟨_, rfl, wait2 hl h12 S4 k4 r4 p6 p7 p8 es l' q1 q2 q3 q4 q5⟩⟩⟩⟩
            have plain := fin _ k3 r3 k30 r30 rfl ds l hl h12 hsz hok hdp
            refine ⟨_, rfl, Br.mk (fun g => ?_) (fun _ => Br.mk (fun z => by cases z) (fun _ => plain))⟩
            have g : decide ((1 : Int) < l) = true := g
            have g := of_decide_eq_true g
            refine ⟨_, rfl, ⟨_, rfl, Br.mk (fun g2 => ?_) (fun _ => Br.mk (fun z => by cases z) (fun _ => plain))⟩⟩
            have g2 : decide (((encs ds).length : Int) < 11) = true := g2
            have g2 : ds.length < 11 := by have := of_decide_eq_true g2; omega
            refine ⟨_, rfl, ht _ _ _ _ _ h3 (by decide) (by decide) fun v k4 r4 v0 v1 k40 r40 => ?_⟩
            rw [su_su]
            refine Br.mk (fun _ => ?_) (fun _ => fin _ k4 r4 k40 r40 rfl ds l hl h12 hsz hok hdp)
            refine ⟨_, rfl, ⟨_, rfl, ⟨_, rfl, (show 3 ≤ sizeLine by decide), ⟨by rw [encs_length]; exact sz_lt12 h12, ⟨_, rfl, ?_⟩⟩⟩⟩⟩
            have e1 : encs ds ++ [D.tup [sLeap, .int hand, .int 1]] = encs (ds ++ [.leap hand 1]) := enc1 ds (.leap hand 1)
            show wpS T c _ [some (.d (.ref p)), some (.d (.tup [.int a, .int b])), some (.d (.int room)), some (.d (.int (t : Int))), some (.vl (encs ds ++ [D.tup [sLeap, .int hand, .int 1]])), some (.d (.int (l - 1))), some (.d x), some (.d (.int way)), some (.d (.int hand)), s9, s10] _ _ _ _ _
            rw [e1]
            exact fin _ k4 r4 k40 r40 rfl (ds ++ [.leap hand 1]) (l - 1) (by omega) (by simp; omega) (by rw [sizes_append]; simp [sizes, sizeD]; omega) (okDeeds_append hok (show okDeeds a b [Deed.leap hand 1] from ⟨(by unfold okDeed; exact ⟨hd0, hd4, by omega, by omega⟩), trivial⟩)) (by rw [deps_append]; simp [deps, depD]; omega)
          refine ⟨_, rfl, ⟨rfl, rfl, Br.mk (fun _ => Br.mk (fun _ => body2) (fun z => by cases z)) (fun _ => ?_)⟩⟩
          refine ⟨_, rfl, ⟨rfl, rfl, Br.mk (fun _ => body2) (fun ht0 => ?_)⟩⟩
          have ht0 : decide ((t : Int) = 0) = false := ht0
          have ht1 : 1 ≤ t := by have := of_decide_eq_false ht0; omega
          have et : (t : Int) - 1 = ((t - 1 : Nat) : Int) := by omega
          -- a try
          refine ⟨_, rfl, Br.mk (fun _ => ?_) (fun z => absurd (gl.symm.trans z) (by decide))⟩
          refine ⟨_, rfl, ⟨_, rfl, Br.mk (fun _ => ?_) (fun z => absurd (gd.symm.trans z) (by decide))⟩⟩
          have hd' : ∀ (S : Hs) (k r room : Int) (Q : VK2), PenAt S p q ns k r → 0 ≤ room → room ≤ 1000 → (∀ (ds : List Deed) (k' r' : Int), (sizes ds : Int) ≤ room → ds.length ≤ 12 → okDeeds a b ds → deps ds ≤ t - 1 → 0 ≤ k' → 0 ≤ r' → Q (.d (.tup (encs ds))) (su S p (.lst [.ref q, .int k', .int r']))) →
              c 25 [.d (.ref p), .d (.tup [.int a, .int b]), .d (.int room), .d (.int ((t : Int) - 1))] S Q := fun S k r room Q => by rw [et]; exact hd S k r room Q ht1
          have lr : l ≤ room := by omega
          refine ⟨_, rfl, ⟨_, rfl, ⟨_, rfl, ⟨_, rfl, ht _ _ _ _ _ h3 hl (lbnd hl (by omega)) fun f1 k4 r4 f10 f11 k40 r40 => ?_⟩⟩⟩⟩
          rw [su_su]
          have h4 := h.up k40 r40
          refine ⟨_, rfl, hd' _ _ _ _ _ h4 f10 (by omega) fun d1 k5 r5 sz1 ln1 ok1 dp1 k50 r50 => ?_⟩
          rw [su_su]
          have h5' := h.up k50 r50
          refine ⟨_, rfl, ⟨_, rfl, hz d1 _ _ (by omega) ?_⟩⟩
          refine ⟨_, rfl, ⟨_, rfl, ⟨_, rfl, ⟨_, rfl, ht _ _ _ _ _ h5' (by omega) (lbnd (by omega) (by omega)) fun f2 k6 r6 f20 f21 k60 r60 => ?_⟩⟩⟩⟩
          rw [su_su]
          have h6 := h.up k60 r60
          refine ⟨_, rfl, hd' _ _ _ _ _ h6 f20 (by omega) fun d2 k7 r7 sz2 ln2 ok2 dp2 k70 r70 => ?_⟩
          rw [su_su]
          refine ⟨_, rfl, ⟨_, rfl, hz d2 _ _ (by omega) ?_⟩⟩
          refine ⟨_, rfl, ⟨_, rfl, ⟨_, rfl, ⟨_, rfl, (show 3 ≤ sizeLine by decide), ⟨by rw [encs_length]; exact sz_lt12 h12, ?_⟩⟩⟩⟩⟩
          exact app (.try_ d1 d2) (l - 1 - (sizes d1 : Int) - (sizes d2 : Int)) _ _ _ _ _ k7 r7 (by omega) (by simp [sizeD]; omega) h12 (by unfold okDeed; exact ⟨⟨ok1, ln1⟩, ok2, ln2⟩) (by simp [depD]; omega) k70 r70 rfl
      · have gl : decide ((0 : Int) < l) = true := decide_eq_true hl
        have gd : decide (((encs ds).length : Int) < 12) = false := decide_eq_false (by rw [hel]; omega)
        refine ⟨_, rfl, Br.mk (fun _ => ?_) (fun z => absurd (gl.symm.trans z) (by decide))⟩
        refine ⟨_, rfl, ⟨_, rfl, Br.mk (fun z => absurd (gd.symm.trans z) (by decide)) (fun _ => Br.mk (fun z => by cases z) (fun _ => ?_))⟩⟩
        refine ⟨_, rfl, Br.mk (fun _ => ?_) (fun z => absurd (gl.symm.trans z) (by decide))⟩
        refine ⟨_, rfl, ⟨_, rfl, Br.mk (fun z => absurd (gd.symm.trans z) (by decide)) (fun _ => Br.mk (fun z => by cases z) (fun _ => ?_))⟩⟩
        refine ⟨_, rfl, Br.mk (fun _ => ?_) (fun z => absurd (gl.symm.trans z) (by decide))⟩
        exact ⟨_, rfl, ⟨_, rfl, Br.mk (fun z => absurd (gd.symm.trans z) (by decide)) (fun _ => stay)⟩⟩
    · have gl : decide ((0 : Int) < l) = false := decide_eq_false hl
      refine ⟨_, rfl, Br.mk (fun z => absurd (gl.symm.trans z) (by decide)) (fun _ => Br.mk (fun z => by cases z) (fun _ => ?_))⟩
      refine ⟨_, rfl, Br.mk (fun z => absurd (gl.symm.trans z) (by decide)) (fun _ => Br.mk (fun z => by cases z) (fun _ => ?_))⟩
      exact ⟨_, rfl, Br.mk (fun z => absurd (gl.symm.trans z) (by decide)) (fun _ => Br.mk (fun z => by cases z) (fun _ => stay))⟩
end LW

/-! A1: tools of the plain side: while, dicts of int keys, decided branches. -/
namespace LW
open PySem L2 PySem.Spec PyProof.Rows DL
/-- a while under an invariant and a measure -/
theorem whl_inv {t : Sl → Hs → (Bool → Hs → Prop) → Prop} {body : (Sl → Hs → Prop) → Sl → Hs → Prop} {nx : Sl → Hs → Prop} (I : Nat → Sl → Hs → Prop)
    (step : ∀ m σ S (k : SK2), (∀ m' σ' S', m' < m → I m' σ' S' → k σ' S') → I m σ S → t σ S fun b S1 => Br b (body k σ S1) (nx σ S1)) {m : Nat} {σ : Sl} {S : Hs} (i : I m σ S) : ∃ n, whlN t body nx n σ S := by
  have key : ∀ n m σ S, m < n → I m σ S → whlN t body nx n σ S := by
    intro n
    induction n with
    | zero => intro m σ S h; omega
    | succ n ih => exact fun m σ S h i => step m σ S _ (fun m' σ' S' hm i' => ih m' σ' S' (by omega) i') i
  exact ⟨m + 1, key _ _ _ _ (Nat.lt_succ_self _) i⟩
theorem Br.dec {p : Prop} [h : Decidable p] {A B : Prop} (a : p → A) (b : ¬ p → B) : Br (decide p) A B := ⟨fun e => a (of_decide_eq_true e), fun e => b (of_decide_eq_false e)⟩
theorem Br.ndec {p : Prop} [h : Decidable p] {A B : Prop} (a : ¬ p → A) (b : p → B) : Br (!decide p) A B := ⟨fun e => a (by simpa using e), fun e => b (by simpa using e)⟩
theorem Br.tt {A B : Prop} (a : A) : Br true A B := ⟨fun _ => a, fun e => by cases e⟩
theorem Br.ff {A B : Prop} (b : B) : Br false A B := ⟨fun e => (by cases e), fun _ => b⟩
theorem Br.of {k : Bool} {A B : Prop} (b : Bool) (e : k = b) (h : if b = true then A else B) : Br k A B := by
  subst e
  cases k
  · exact Br.ff (by simpa using h)
  · exact Br.tt (by simpa using h)
/-! dicts of int keys -/
def encI {α : Type} (f : α → D) (kvs : List (Int × α)) : List (D × D) := kvs.map fun p => (.int p.1, f p.2)
def pget {α : Type} : List (Int × α) → Int → Option α
  | [], _ => none
  | (k, v) :: r, x => if k = x then some v else pget r x
def pput {α : Type} (kvs : List (Int × α)) (x : Int) (y : α) : List (Int × α) := if (pget kvs x).isSome then kvs.map fun p => if p.1 = x then (p.1, y) else p else kvs ++ [(x, y)]
section
variable {α : Type} {f : α → D}
theorem dget_enc : ∀ (kvs : List (Int × α)) (x : Int), dget (encI f kvs) (.int x) = (pget kvs x).map f
  | [], x => rfl
  | (k, v) :: r, x => by
    show (match eqB (.int k) (.int x) with | true => some (f v) | false => dget (encI f r) (.int x)) = _
    have e : eqB (.int k) (.int x) = decide (k = x) := rfl
    rw [e]
    by_cases h : k = x
    · rw [decide_eq_true h]; simp [pget, h]
    · rw [decide_eq_false h, dget_enc r x]; simp [pget, h]
theorem dhas_enc (kvs : List (Int × α)) (x : Int) : dhas (encI f kvs) (.int x) = (pget kvs x).isSome := by
  unfold dhas
  rw [dget_enc]
  cases pget kvs x <;> rfl
theorem dput_enc (kvs : List (Int × α)) (x : Int) (y : α) : dput (encI f kvs) (.int x) (f y) = encI f (pput kvs x y) := by
  unfold dput pput
  rw [dhas_enc]
  cases h : (pget kvs x).isSome with
  | true =>
    simp only [if_true]
    show (kvs.map _).map _ = (kvs.map _).map _
    rw [List.map_map, List.map_map]
    refine List.map_congr_left fun p _ => ?_
    show (match eqB (.int p.1) (.int x) with | true => (D.int p.1, f y) | false => (D.int p.1, f p.2)) = (D.int (if p.1 = x then (p.1, y) else p).1, f (if p.1 = x then (p.1, y) else p).2)
    have e : eqB (.int p.1) (.int x) = decide (p.1 = x) := rfl
    rw [e]
    by_cases h : p.1 = x
    · rw [decide_eq_true h, if_pos h]
    · rw [decide_eq_false h, if_neg h]
  | false => simp [encI]
theorem pget_none {kvs : List (Int × α)} {x : Int} : pget kvs x = none ↔ ∀ p ∈ kvs, p.1 ≠ x := by
  induction kvs with
  | nil => simp [pget]
  | cons p r ih =>
    obtain ⟨k, v⟩ := p
    unfold pget
    by_cases h : k = x
    · simp [h]
    · simp [h, ih]
theorem pget_put (kvs : List (Int × α)) (x z : Int) (y : α) : pget (pput kvs x y) z = if x = z then some y else pget kvs z := by
  unfold pput
  split
  · rename_i h
    have key : ∀ (l : List (Int × α)), pget (l.map fun p => if p.1 = x then (p.1, y) else p) z = if x = z then (if (pget l x).isSome then some y else none) else pget l z := by
      intro l
      induction l with
      | nil => simp [pget]
      | cons p r ih =>
        obtain ⟨k, v⟩ := p
        simp only [List.map_cons]
        by_cases e : k = x
        · subst e
          by_cases e2 : k = z
          · subst e2; simp [pget]
          · simp [pget, e2, ih]
        · by_cases e2 : k = z
          · subst e2
            have : ¬ x = k := fun q => e q.symm
            simp [pget, e, this]
          · by_cases e3 : x = z
            · subst e3; simp [pget, e, e2, ih]
            · simp [pget, e, e2, e3, ih]
    rw [key, h]
    by_cases e3 : x = z <;> simp [e3]
  · rename_i h
    have h : pget kvs x = none := by simpa using h
    have key : ∀ (l : List (Int × α)), pget l x = none → pget (l ++ [(x, y)]) z = if x = z then some y else pget l z := by
      intro l
      induction l with
      | nil => intro _; simp [pget]
      | cons p r ih =>
        obtain ⟨k, v⟩ := p
        intro hl
        unfold pget at hl
        split at hl
        · cases hl
        · rename_i hk
          simp only [List.cons_append, pget]
          rw [ih hl]
          by_cases e2 : k = z
          · subst e2
            have : ¬ x = k := fun q => hk q.symm
            simp [this]
          · by_cases e3 : x = z
            · subst e3; simp [hk]
            · simp [e2, e3]
    exact key kvs h
theorem pput_keys (kvs : List (Int × α)) (x : Int) (y : α) : (pput kvs x y).map Prod.fst = if (pget kvs x).isSome then kvs.map Prod.fst else kvs.map Prod.fst ++ [x] := by
  unfold pput
  split
  · rw [List.map_map]
    refine List.map_congr_left fun p _ => ?_
    show (if p.1 = x then (p.1, y) else p).1 = p.1
    split <;> rfl
  · simp
theorem encI_length (kvs : List (Int × α)) : (encI f kvs).length = kvs.length := by simp [encI]
theorem pget_isSome {kvs : List (Int × α)} {x : Int} : (pget kvs x).isSome = decide (x ∈ kvs.map Prod.fst) := by
  induction kvs with
  | nil => simp [pget]
  | cons p r ih =>
    obtain ⟨k, v⟩ := p
    unfold pget
    by_cases h : k = x
    · simp [h]
    · have : ¬ x = k := fun q => h q.symm
      simp only [if_neg h, ih, List.map_cons, List.mem_cons]
      simp [this]
end
/-- unlike numbers below n are at most n -/
theorem nodup_le : ∀ (n : Nat) (l : List Int), l.Nodup → (∀ x ∈ l, 0 ≤ x ∧ x < (n : Int)) → l.length ≤ n
  | 0, [], _, _ => Nat.le_refl _
  | 0, x :: l, _, h => by have := h x List.mem_cons_self; omega
  | n + 1, l, hd, h => by
    have h1 : (l.filter fun x => x ≠ (n : Int)).length ≤ n := nodup_le n _ (hd.filter _) fun x hx => by
      have h2 := List.mem_filter.mp hx
      have h3 := h x h2.1
      have h4 : x ≠ (n : Int) := by simpa using h2.2
      omega
    have h5 : ∀ l : List Int, l.Nodup → l.length ≤ (l.filter fun x => x ≠ (n : Int)).length + 1 := by
      intro l
      induction l with
      | nil => intro _; simp
      | cons x l ih =>
        intro hd
        rw [List.nodup_cons] at hd
        by_cases e : x = (n : Int)
        · have : l.filter (fun x => x ≠ (n : Int)) = l := List.filter_eq_self.mpr fun y hy => by
            have : y ≠ (n : Int) := fun q => hd.1 (by rw [e, ← q]; exact hy)
            simpa using this
          rw [List.filter_cons, if_neg (by simp [e]), this]; simp
        · have := ih hd.2
          rw [List.filter_cons, if_pos (by simp [e])]; rw [List.length_cons, List.length_cons]; omega
    have := h5 l hd
    omega
end LW

/-! A2: done alone, as plain functions. -/
namespace LW
open PySem L2 PySem.Spec PyProof.Rows DL
structure St where
  puts : List (Int × Int)
  held : List Int
  looked : List (Int × Bool)
def iget (l : List Int) (i : Int) : Int := l.getD i.toNat 0
def iset (l : List Int) (i x : Int) : List Int := l.set i.toNat x
def seen (s : List Int) (puts : List (Int × Int)) (b : Int) : Int := (pget puts b).getD (iget s b)
def lookS (s : List Int) (st : St) (h b : Int) : St := ⟨st.puts, iset st.held h (seen s st.puts b), if (pget st.puts b).isSome then st.looked else pput st.looked b true⟩
def plainS (w : Int) (s : List Int) (d : Deed) (st : St) : St := match d with
  | .look h b => lookS s st h b
  | .put b h => ⟨pput st.puts b (iget st.held h), st.held, st.looked⟩
  | .set h n => ⟨st.puts, iset st.held h n, st.looked⟩
  | .plus g h => ⟨st.puts, iset st.held g ((iget st.held g + iget st.held h) % w), st.looked⟩
  | _ => st
def gos (w : Int) (s : List Int) : List Deed → Nat → St → Bool × St
  | [], _, st => (false, st)
  | _ :: ds, k + 1, st => gos w s ds k st
  | .wait :: ds, 0, st => (true, st)
  | .leap h n :: ds, 0, st => gos w s ds (if iget st.held h = 0 then n.toNat else 0) st
  | .try_ a b :: ds, 0, st =>
    if (gos w s a 0 st).1 = true then
      if (gos w s b 0 ⟨st.puts, st.held, (gos w s a 0 st).2.looked⟩).1 = true then gos w s b 0 ⟨st.puts, st.held, (gos w s a 0 st).2.looked⟩
      else gos w s ds 0 (gos w s b 0 ⟨st.puts, st.held, (gos w s a 0 st).2.looked⟩).2
    else gos w s ds 0 (gos w s a 0 st).2
  | .look h b :: ds, 0, st => gos w s ds 0 (plainS w s (.look h b) st)
  | .put b h :: ds, 0, st => gos w s ds 0 (plainS w s (.put b h) st)
  | .set h n :: ds, 0, st => gos w s ds 0 (plainS w s (.set h n) st)
  | .plus g h :: ds, 0, st => gos w s ds 0 (plainS w s (.plus g h) st)
/-- what `tries_in_vain` comes to -/
def vain (w : Int) (s : List Int) (a b : List Deed) (st : St) : Bool × St :=
  if (gos w s a 0 st).1 = true then gos w s b 0 ⟨st.puts, st.held, (gos w s a 0 st).2.looked⟩ else gos w s a 0 st
theorem gos_try (w : Int) (s : List Int) (a b ds : List Deed) (st : St) : gos w s (.try_ a b :: ds) 0 st = if (vain w s a b st).1 = true then vain w s a b st else gos w s ds 0 (vain w s a b st).2 := by
  rw [gos]
  unfold vain
  cases h : (gos w s a 0 st).1 <;> simp [h]
theorem gos_drop (w : Int) (s : List Int) : ∀ (ds : List Deed) (k : Nat) (st : St), gos w s ds k st = gos w s (ds.drop k) 0 st
  | [], k, st => by simp [gos]
  | d :: ds, 0, st => rfl
  | d :: ds, k + 1, st => by
    have : gos w s (d :: ds) (k + 1) st = gos w s ds k st := by cases d <;> rw [gos]
    rw [this, gos_drop w s ds k st]; rfl
/-! what stays -/
structure OkSt (n : Int) (st : St) : Prop where
  h4 : st.held.length = 4
  pk : (st.puts.map Prod.fst).Nodup
  pr : ∀ x ∈ st.puts.map Prod.fst, 0 ≤ x ∧ x < n
  lk : (st.looked.map Prod.fst).Nodup
  lr : ∀ x ∈ st.looked.map Prod.fst, 0 ≤ x ∧ x < n
  lt : ∀ p ∈ st.looked, p.2 = true
theorem keys_put {α : Type} {n : Int} {kvs : List (Int × α)} {x : Int} {y : α} (hd : (kvs.map Prod.fst).Nodup) (hr : ∀ z ∈ kvs.map Prod.fst, 0 ≤ z ∧ z < n) (h0 : 0 ≤ x) (h1 : x < n) :
    ((pput kvs x y).map Prod.fst).Nodup ∧ ∀ z ∈ (pput kvs x y).map Prod.fst, 0 ≤ z ∧ z < n := by
  rw [pput_keys, pget_isSome]
  by_cases e : x ∈ kvs.map Prod.fst
  · simp only [decide_eq_true e, if_true]; exact ⟨hd, hr⟩
  · simp only [decide_eq_false e]
    refine ⟨?_, fun z hz => ?_⟩
    · show (kvs.map Prod.fst ++ [x]).Nodup
      rw [List.nodup_append]
      exact ⟨hd, by simp, fun a ha b hb q => by simp at hb; subst hb; subst q; exact e ha⟩
    · have hz : z ∈ kvs.map Prod.fst ++ [x] := hz
      rcases List.mem_append.mp hz with hz | hz
      · exact hr z hz
      · simp at hz; subst hz; exact ⟨h0, h1⟩
theorem OkSt.look {n : Int} {st : St} (o : OkSt n st) (s : List Int) {h b : Int} (b0 : 0 ≤ b) (b1 : b < n) : OkSt n (lookS s st h b) := by
  unfold lookS
  cases hp : (pget st.puts b).isSome with
  | true => exact ⟨by simp [iset, o.h4], o.pk, o.pr, by simpa using o.lk, by simpa using o.lr, by simpa using o.lt⟩
  | false =>
    have k := keys_put (y := true) o.lk o.lr b0 b1
    refine ⟨by simp [iset, o.h4], o.pk, o.pr, by simpa using k.1, by simpa using k.2, ?_⟩
    intro p hp
    have hp : p ∈ pput st.looked b true := by simpa using hp
    unfold pput at hp
    split at hp
    · obtain ⟨q, hq, rfl⟩ := List.mem_map.mp hp
      split
      · rfl
      · exact o.lt q hq
    · rcases List.mem_append.mp hp with hp | hp
      · exact o.lt p hp
      · simp at hp; subst hp; rfl
theorem OkSt.plain {n w : Int} {st : St} (o : OkSt n st) (s : List Int) {d : Deed} {nw : Int} (h : okDeed n nw d) : OkSt n (plainS w s d st) := by
  cases d with
  | look h' b => unfold okDeed at h; exact o.look s h.2.2.1 h.2.2.2
  | put b h' => unfold okDeed at h; exact ⟨o.h4, (keys_put o.pk o.pr h.2.2.1 h.2.2.2).1, (keys_put o.pk o.pr h.2.2.1 h.2.2.2).2, o.lk, o.lr, o.lt⟩
  | set h' x => exact ⟨by simp [plainS, iset, o.h4], o.pk, o.pr, o.lk, o.lr, o.lt⟩
  | plus g h' => exact ⟨by simp [plainS, iset, o.h4], o.pk, o.pr, o.lk, o.lr, o.lt⟩
  | _ => exact o
theorem gos_ok {n w nw : Int} (s : List Int) : ∀ (ds : List Deed) (k : Nat) (st : St), okDeeds n nw ds → OkSt n st → OkSt n (gos w s ds k st).2
  | [], k, st, _, o => by rw [gos]; exact o
  | d :: ds, k + 1, st, h, o => by
    have : gos w s (d :: ds) (k + 1) st = gos w s ds k st := by cases d <;> rw [gos]
    rw [this]; exact gos_ok s ds k st h.2 o
  | .wait :: ds, 0, st, h, o => by rw [gos]; exact o
  | .leap h' x :: ds, 0, st, h, o => by rw [gos]; exact gos_ok s ds _ st h.2 o
  | .look h' b :: ds, 0, st, h, o => by rw [gos]; exact gos_ok s ds 0 _ h.2 (o.plain s h.1)
  | .put b h' :: ds, 0, st, h, o => by rw [gos]; exact gos_ok s ds 0 _ h.2 (o.plain s h.1)
  | .set h' x :: ds, 0, st, h, o => by rw [gos]; exact gos_ok s ds 0 _ h.2 (o.plain s h.1)
  | .plus g h' :: ds, 0, st, h, o => by rw [gos]; exact gos_ok s ds 0 _ h.2 (o.plain s h.1)
  | .try_ a b :: ds, 0, st, h, o => by
    have hab := h.1
    unfold okDeed at hab
    have oa := gos_ok (w := w) s a 0 st hab.1.1 o
    have ob := gos_ok (w := w) s b 0 ⟨st.puts, st.held, (gos w s a 0 st).2.looked⟩ hab.2.1 ⟨o.h4, o.pk, o.pr, oa.lk, oa.lr, oa.lt⟩
    rw [gos]
    split
    · split
      · exact ob
      · exact gos_ok s ds 0 _ h.2 ob
    · exact gos_ok s ds 0 _ h.2 oa
def st0 : St := ⟨[], [0, 0, 0, 0], []⟩
theorem st0_ok (n : Int) : OkSt n st0 := ⟨rfl, .nil, by simp [st0], .nil, by simp [st0], by simp [st0]⟩
/-- the numbers in the boxes -/
def nowS (s : List Int) (puts : List (Int × Int)) : List Int := (List.range s.length).map fun (b : Nat) => seen s puts b
end LW

/-! A3: Doing, walked. -/
namespace LW
open PySem L2 PySem.Spec PyProof.Rows DL
/-- a Doing at o, within the frame F of what stays -/
structure DoAt (F S : Hs) (o pa ha la : Addr) (w : Int) (s : List Int) (st : St) : Prop where
  ho : S o = some (.ins 1 [.int w, .tup (s.map .int), .ref pa, .ref ha, .ref la])
  hp : S pa = some (.dic (encI D.int st.puts))
  hh : S ha = some (.lst (st.held.map .int))
  hl : S la = some (.dic (encI D.bl st.looked))
  ne : pa ≠ la
  fr : ∀ b x, F b = some x → S b = some x
  fo : F o = none
  fp : F pa = none
  fh : F ha = none
  fl : F la = none
theorem ne_of {S : Hs} {a b : Addr} {x y : O} (ha : S a = some x) (hb : S b = some y) (h : x ≠ y) : a ≠ b := fun e => by subst e; rw [ha] at hb; exact h (Option.some.inj hb)
theorem ne_none {S : Hs} {a b : Addr} {x : O} (ha : S a = some x) (hb : S b = none) : a ≠ b := fun e => by subst e; rw [ha] at hb; cases hb
theorem fr_none {F S : Hs} {a : Addr} (fr : ∀ b x, F b = some x → S b = some x) (h : S a = none) : F a = none := by
  cases e : F a with
  | none => rfl
  | some x => rw [fr a x e] at h; cases h
theorem su_none {S : Hs} {a b : Addr} {x : O} (h : su S a x b = none) : S b = none := by
  unfold su at h
  split at h
  · cases h
  · exact h
section
variable {F S : Hs} {o pa ha la : Addr} {w : Int} {s : List Int} {st : St}
theorem DoAt.frame (d : DoAt F S o pa ha la w s st) {a : Addr} {x : O} (e : F a = none) : ∀ b y, F b = some y → su S a x b = some y := fun b y h => by
  rw [su_ne fun z => by subst z; rw [e] at h; cases h]
  exact d.fr b y h
theorem DoAt.setH (d : DoAt F S o pa ha la w s st) (l : List Int) : DoAt F (su S ha (.lst (l.map .int))) o pa ha la w s ⟨st.puts, l, st.looked⟩ :=
  ⟨by rw [su_ne (ne_of d.ho d.hh (by simp))]; exact d.ho, by rw [su_ne (ne_of d.hp d.hh (by simp))]; exact d.hp, su_same, by rw [su_ne (ne_of d.hl d.hh (by simp))]; exact d.hl, d.ne, d.frame d.fh, d.fo, d.fp, d.fh, d.fl⟩
theorem DoAt.setP (d : DoAt F S o pa ha la w s st) (l : List (Int × Int)) : DoAt F (su S pa (.dic (encI D.int l))) o pa ha la w s ⟨l, st.held, st.looked⟩ :=
  ⟨by rw [su_ne (ne_of d.ho d.hp (by simp))]; exact d.ho, su_same, by rw [su_ne (ne_of d.hh d.hp (by simp))]; exact d.hh, by rw [su_ne d.ne.symm]; exact d.hl, d.ne, d.frame d.fp, d.fo, d.fp, d.fh, d.fl⟩
theorem DoAt.setL (d : DoAt F S o pa ha la w s st) (l : List (Int × Bool)) : DoAt F (su S la (.dic (encI D.bl l))) o pa ha la w s ⟨st.puts, st.held, l⟩ :=
  ⟨by rw [su_ne (ne_of d.ho d.hl (by simp))]; exact d.ho, by rw [su_ne d.ne]; exact d.hp, by rw [su_ne (ne_of d.hh d.hl (by simp))]; exact d.hh, su_same, d.ne, d.frame d.fl, d.fo, d.fp, d.fh, d.fl⟩
end
theorem getI_map {α : Type} {f : α → D} {l : List α} {i : Int} {x : α} (h0 : 0 ≤ i) (h : l[i.toNat]? = some x) : getI (l.map f) i = some (f x) := by
  obtain ⟨n, rfl⟩ := Int.eq_ofNat_of_zero_le h0
  show (l.map f)[n]? = _
  rw [List.getElem?_map]
  have h : l[n]? = some x := h
  rw [h]; rfl
theorem getI_ints {l : List Int} {i : Int} (h0 : 0 ≤ i) (h : i < l.length) : getI (l.map D.int) i = some (.int (iget l i)) := by
  refine getI_map h0 ?_
  unfold iget
  have hn : i.toNat < l.length := by omega
  simp [List.getD, List.getElem?_eq_getElem hn]
theorem set_ints (l : List Int) (i x : Int) : (l.map D.int).set i.toNat (.int x) = (iset l i x).map D.int := by
  unfold iset
  rw [List.map_set]
theorem dput_len {α : Type} {f : α → D} {kvs : List (Int × α)} {n : Nat} (hd : (kvs.map Prod.fst).Nodup) (hr : ∀ z ∈ kvs.map Prod.fst, 0 ≤ z ∧ z < (n : Int)) (hn : n ≤ 1000) : (encI f kvs).length < sizeLine := by
  have := nodup_le n _ hd hr
  rw [List.length_map] at this
  rw [encI_length]
  exact Nat.lt_of_le_of_lt (Nat.le_trans this hn) (by decide)
theorem seti_lst {ds : List D} {i : Int} {x : D} {S : Hs} {K : Cn → D → Prop} (h0 : 0 ≤ i) (h : i < ds.length) (k : K (.l (ds.set i.toNat x)) .non) : mutC .setI (.l ds) [.d (.int i), .d x] S K := by
  obtain ⟨n, rfl⟩ := Int.eq_ofNat_of_zero_le h0
  exact ⟨by omega, k⟩
section
variable {T : Tbl} {F S : Hs} {o pa ha la : Addr} {w : Int} {s : List Int} {st : St} {Q : VK2}
theorem Doing_look_ok (hT : T.fn 39 = some f_Doing_look) (n : Nat) {h b : Int} (d : DoAt F S o pa ha la w s st) (hs : s.length ≤ 6) (ok : OkSt s.length st) (h0 : 0 ≤ h) (h4 : h < 4) (b0 : 0 ≤ b) (b1 : b < s.length)
    (q : ∀ S', DoAt F S' o pa ha la w s (lookS s st h b) → Q (.d .non) S') : cal T (n + 1) 39 [.d (.ref o), .d (.int h), .d (.int b)] S Q := by
  refine ⟨_, hT, rfl, rfl, ?_⟩
  generalize cal T n = c
  have gb : getI (s.map D.int) b = some (.int (iget s b)) := getI_ints b0 b1
  have ho := d.ho
  have hp := d.hp
  have tail : ∀ (S1 : Hs) (l : List (Int × Bool)), DoAt F S1 o pa ha la w s ⟨st.puts, st.held, l⟩ → (l = if (pget st.puts b).isSome then st.looked else pput st.looked b true) →
      wpS T c (.seti (.fld (.v 0) 1 3) (.v 1) (.get2 (.fld (.v 0) 1 2) (.v 2) (.o2 .idx (.fld (.v 0) 1 1) (.v 2)))) [some (.d (.ref o)), some (.d (.int h)), some (.d (.int b))] S1 (fun _ S' => Q (.d .non) S') Q (fun _ _ => False) (fun _ _ => False) := by
    intro S1 l d1 el
    refine ⟨_, rfl, ⟨_, _, rfl, d1.ho, _, rfl, ⟨⟨_, d1.hp, _, rfl⟩, ⟨_, rfl, ⟨_, rfl, ⟨_, _, rfl, d1.ho, _, rfl, ⟨_, rfl, ⟨_, gb, ⟨_, d1.hp, _, _, _, rfl, rfl, rfl, rfl, ?_⟩⟩⟩⟩⟩⟩⟩⟩⟩
    refine ⟨_, rfl, ⟨_, _, rfl, d1.ho, _, rfl, ⟨_, rfl, ⟨_, _, _, rfl, d1.hh, rfl, ?_⟩⟩⟩⟩
    refine seti_lst h0 (by rw [List.length_map, ok.h4]; omega) ⟨_, rfl, ?_⟩
    have e : (dget (encI D.int st.puts) (.int b)).getD (.int (iget s b)) = .int (seen s st.puts b) := by
      rw [dget_enc]
      unfold seen
      cases pget st.puts b <;> rfl
    show Q (.d .non) (su S1 ha (.lst ((st.held.map D.int).set h.toNat ((dget (encI D.int st.puts) (.int b)).getD (.int (iget s b))))))
    rw [e, set_ints]
    refine q _ ?_
    have := d1.setH (iset st.held h (seen s st.puts b))
    unfold lookS
    rw [← el]
    exact this
  refine ⟨_, rfl, ⟨_, rfl, ⟨_, _, rfl, d.ho, _, rfl, ⟨_, d.hp, rfl, Br.of (!(pget st.puts b).isSome) (congrArg (!·) (dhas_enc _ _)) ?_⟩⟩⟩⟩
  cases e : (pget st.puts b).isSome with
  | true => exact tail S st.looked d (by rw [e]; rfl)
  | false =>
    refine ⟨_, rfl, ⟨_, _, rfl, d.ho, _, rfl, ⟨_, rfl, ⟨_, _, _, rfl, d.hl, rfl, ⟨rfl, dput_len ok.lk ok.lr (by omega), ⟨_, rfl, ?_⟩⟩⟩⟩⟩⟩
    show wpS T c _ _ (su S la (.dic (dput (encI D.bl st.looked) (.int b) (.bl true)))) _ _ _ _
    rw [dput_enc]
    exact tail _ _ (d.setL _) (by rw [e]; rfl)
end
end LW

/-! A4: Doing, walked: plain, waits, tries_in_vain. -/
namespace LW
open PySem L2 PySem.Spec PyProof.Rows DL
structure DoT (T : Tbl) : Prop where
  f39 : T.fn 39 = some f_Doing_look
  f40 : T.fn 40 = some f_Doing_plain
  f41 : T.fn 41 = some f_Doing_waits
  f42 : T.fn 42 = some f_Doing_tries_in_vain
  c39 : T.fcls 39 = 1
  c40 : T.fcls 40 = 1
  c41 : T.fcls 41 = 1
  c42 : T.fcls 42 = 1
def isPl : Deed → Bool
  | .wait => false
  | .leap _ _ => false
  | .try_ _ _ => false
  | _ => true
section
variable {T : Tbl} {F S : Hs} {o pa ha la : Addr} {w : Int} {s : List Int} {st : St} {Q : VK2}
theorem Doing_plain_ok (E : DoT T) (n : Nat) {dd : Deed} {nw : Int} (hd : okDeed s.length nw dd) (hp : isPl dd = true) (w0 : 0 < w) (d : DoAt F S o pa ha la w s st) (hs : s.length ≤ 6) (ok : OkSt s.length st)
    (q : ∀ S', DoAt F S' o pa ha la w s (plainS w s dd st) → Q (.d .non) S') : cal T (n + 2) 40 [.d (.ref o), .d (encD dd)] S Q := by
  refine ⟨_, E.f40, rfl, rfl, ?_⟩
  have hl := fun h b h0 h4 b0 b1 Q => Doing_look_ok E.f39 n (h := h) (b := b) (Q := Q) d hs ok h0 h4 b0 b1
  generalize cal T (n + 1) = c at hl ⊢
  have c39 := E.c39
  have hh : ∀ h : Int, 0 ≤ h → h < 4 → getI (st.held.map D.int) h = some (.int (iget st.held h)) := fun h h0 h4 => getI_ints h0 (by rw [ok.h4]; omega)
  cases dd with
  | look h b =>
    unfold okDeed at hd
    obtain ⟨h0, h4, b0, b1⟩ := hd
    refine ⟨_, rfl, ⟨_, rfl, _, rfl, ?_⟩⟩
    refine ⟨_, rfl, ⟨rfl, rfl, Br.tt ?_⟩⟩
    refine ⟨_, rfl, ⟨_, _, rfl, by rw [c39]; exact d.ho, ⟨_, rfl, ⟨_, rfl, ?_⟩⟩⟩⟩
    exact hl h b h0 h4 b0 b1 _ fun S' d' => q S' d'
  | put b h =>
    unfold okDeed at hd
    obtain ⟨h0, h4, b0, b1⟩ := hd
    refine ⟨_, rfl, ⟨_, rfl, _, rfl, ?_⟩⟩
    refine ⟨_, rfl, ⟨rfl, rfl, Br.ff ?_⟩⟩
    refine ⟨_, rfl, ⟨rfl, rfl, Br.tt ?_⟩⟩
    refine ⟨_, rfl, ⟨_, _, rfl, d.ho, _, rfl, ⟨_, rfl, ⟨_, d.hh, ⟨_, hh h h0 h4, ?_⟩⟩⟩⟩⟩
    refine ⟨_, rfl, ⟨_, _, rfl, d.ho, _, rfl, ⟨_, rfl, ⟨_, _, _, rfl, d.hp, rfl, ⟨rfl, dput_len ok.pk ok.pr (by omega), ⟨_, rfl, ?_⟩⟩⟩⟩⟩⟩
    show Q (.d .non) (su S pa (.dic (dput (encI D.int st.puts) (.int b) (.int (iget st.held h)))))
    rw [dput_enc]
    exact q _ (d.setP _)
  | set h x =>
    unfold okDeed at hd
    obtain ⟨h0, h4, b0, b1⟩ := hd
    refine ⟨_, rfl, ⟨_, rfl, _, rfl, ?_⟩⟩
    refine ⟨_, rfl, ⟨rfl, rfl, Br.ff ?_⟩⟩
    refine ⟨_, rfl, ⟨rfl, rfl, Br.ff ?_⟩⟩
    refine ⟨_, rfl, ⟨rfl, rfl, Br.tt ?_⟩⟩
    refine ⟨_, rfl, ⟨_, rfl, ⟨_, _, rfl, d.ho, _, rfl, ⟨_, rfl, ⟨_, _, _, rfl, d.hh, rfl, ?_⟩⟩⟩⟩⟩
    refine seti_lst h0 (by rw [List.length_map, ok.h4]; omega) ⟨_, rfl, ?_⟩
    rw [set_ints]
    exact q _ (d.setH _)
  | plus g h =>
    unfold okDeed at hd
    obtain ⟨h0, h4, b0, b1⟩ := hd
    refine ⟨_, rfl, ⟨_, rfl, _, rfl, ?_⟩⟩
    refine ⟨_, rfl, ⟨rfl, rfl, Br.ff ?_⟩⟩
    refine ⟨_, rfl, ⟨rfl, rfl, Br.ff ?_⟩⟩
    refine ⟨_, rfl, ⟨rfl, rfl, Br.ff ?_⟩⟩
    refine ⟨_, rfl, ⟨_, _, rfl, d.ho, _, rfl, ⟨_, rfl, ⟨_, d.hh, ⟨_, hh g h0 h4, ?_⟩⟩⟩⟩⟩
    refine ⟨_, rfl, ⟨_, _, rfl, d.ho, _, rfl, ⟨_, rfl, ⟨_, d.hh, ⟨_, hh h b0 b1, ?_⟩⟩⟩⟩⟩
    refine ⟨_, rfl, ⟨_, _, rfl, d.ho, _, rfl, ⟨w0, ?_⟩⟩⟩
    refine ⟨_, rfl, ⟨_, _, rfl, d.ho, _, rfl, ⟨_, rfl, ⟨_, _, _, rfl, d.hh, rfl, ?_⟩⟩⟩⟩
    refine seti_lst h0 (by rw [List.length_map, ok.h4]; omega) ⟨_, rfl, ?_⟩
    rw [set_ints]
    exact q _ (d.setH _)
  | _ => cases hp
end
/-- what is at a place of a dealing -/
theorem encs_at {ds : List Deed} {i : Int} (h0 : 0 ≤ i) (h : i < ds.length) : ∃ d, ds.drop i.toNat = d :: ds.drop (i.toNat + 1) ∧ getI (encs ds) i = some (encD d) ∧ d ∈ ds := by
  have hn : i.toNat < ds.length := by omega
  refine ⟨ds[i.toNat], List.drop_eq_getElem_cons hn, ?_, List.getElem_mem hn⟩
  have e : ∀ l : List Deed, encs l = l.map encD := by
    intro l
    induction l with
    | nil => rfl
    | cons d l ih => simp [encs, ih]
  rw [e]
  exact getI_map h0 (List.getElem?_eq_getElem hn)
theorem okDeeds_mem {n w : Int} {d : Deed} : ∀ {ds : List Deed}, okDeeds n w ds → d ∈ ds → okDeed n w d
  | [], _, h => by cases h
  | e :: ds, h, m => by
    rcases List.mem_cons.mp m with rfl | m
    · exact h.1
    · exact okDeeds_mem h.2 m
theorem okDeeds_drop {n w : Int} : ∀ {ds : List Deed} (k : Nat), okDeeds n w ds → okDeeds n w (ds.drop k)
  | ds, 0, h => h
  | [], k + 1, h => by simp [okDeeds]
  | d :: ds, k + 1, h => okDeeds_drop k h.2
section
variable {T : Tbl} {o la : Addr} {w nw : Int} {s : List Int}
abbrev WaitsOk (T : Tbl) (o la : Addr) (w nw : Int) (s : List Int) (m t : Nat) : Prop := ∀ (ds : List Deed) (F S : Hs) (pa ha : Addr) (st : St) (Q : VK2), deps ds ≤ t → okDeeds s.length nw ds → ds.length ≤ 1000 → DoAt F S o pa ha la w s st → OkSt s.length st →
  (∀ S' pa' ha', DoAt F S' o pa' ha' la w s (gos w s ds 0 st).2 → Q (.d (.bl (gos w s ds 0 st).1)) S') → cal T m 41 [.d (.ref o), .d (.tup (encs ds))] S Q
theorem vain_ok (E : DoT T) {m t : Nat} (W : WaitsOk T o la w nw s m t) {a b : List Deed} {F S : Hs} {pa ha : Addr} {st : St} {Q : VK2} (da : deps a ≤ t) (db : deps b ≤ t) (oa : okDeeds s.length nw a) (ob : okDeeds s.length nw b) (la' : a.length ≤ 12) (lb : b.length ≤ 12)
    (d : DoAt F S o pa ha la w s st) (ok : OkSt s.length st) (q : ∀ S' pa' ha', DoAt F S' o pa' ha' la w s (vain w s a b st).2 → Q (.d (.bl (vain w s a b st).1)) S') :
    cal T (m + 1) 42 [.d (.ref o), .d (.tup (encs a)), .d (.tup (encs b))] S Q := by
  refine ⟨_, E.f42, rfl, rfl, ?_⟩
  have W' := W
  unfold WaitsOk at W
  generalize cal T m = c at W ⊢
  have c41 := E.c41
  refine ⟨_, rfl, ⟨_, _, rfl, d.ho, _, rfl, ⟨_, d.hp, _, rfl, ?_⟩⟩⟩
  refine ⟨_, rfl, fun pc hpc => ?_⟩
  have q1 : su S pc (.dic (encI D.int st.puts)) o = some (.ins 1 [.int w, .tup (s.map .int), .ref pa, .ref ha, .ref la]) := by rw [su_ne (ne_none d.ho hpc)]; exact d.ho
  have q2 : su S pc (.dic (encI D.int st.puts)) ha = some (.lst (st.held.map .int)) := by rw [su_ne (ne_none d.hh hpc)]; exact d.hh
  refine ⟨_, rfl, ⟨_, _, rfl, q1, _, rfl, ⟨_, q2, _, rfl, ?_⟩⟩⟩
  refine ⟨_, rfl, fun hc' hhc => ?_⟩
  have hpc' : pc ≠ hc' := fun e => by subst e; rw [su_same] at hhc; cases hhc
  have hhc0 : S hc' = none := by rw [su_ne hpc'.symm] at hhc; exact hhc
  -- the inner frame
  have d1 : DoAt (su (su F pc (.dic (encI D.int st.puts))) hc' (.lst (st.held.map .int))) (su (su S pc (.dic (encI D.int st.puts))) hc' (.lst (st.held.map .int))) o pa ha la w s st := by
    have k : ∀ {a : Addr} {x : O}, S a = some x → su (su S pc (.dic (encI D.int st.puts))) hc' (.lst (st.held.map .int)) a = some x := fun {a x} e => by
      rw [su_ne (ne_none e hhc0), su_ne (ne_none e hpc)]; exact e
    have kf : ∀ {a : Addr} {x : O}, S a = some x → F a = none → su (su F pc (.dic (encI D.int st.puts))) hc' (.lst (st.held.map .int)) a = none := fun {a x} e f => by
      rw [su_ne (ne_none e hhc0), su_ne (ne_none e hpc)]; exact f
    refine ⟨k d.ho, k d.hp, k d.hh, k d.hl, d.ne, fun b x e => ?_, kf d.ho d.fo, kf d.hp d.fp, kf d.hh d.fh, kf d.hl d.fl⟩
    unfold su at e ⊢
    split
    · rename_i h; rw [if_pos h] at e; exact e
    · rename_i h
      rw [if_neg h] at e
      split
      · rename_i h2; rw [if_pos h2] at e; exact e
      · rename_i h2; rw [if_neg h2] at e; exact d.fr _ _ e
  have fpc : F pc = none := fr_none d.fr hpc
  have fhc : F hc' = none := fr_none d.fr hhc0
  refine ⟨_, rfl, ⟨_, _, rfl, by rw [c41]; exact d1.ho, ⟨_, rfl, ?_⟩⟩⟩
  refine W a _ _ pa ha st _ da oa (by omega) d1 ok fun S' pa' ha' d' => ?_
  cases e : (gos w s a 0 st).1 with
  | false =>
    refine Br.tt ?_
    have ev : vain w s a b st = gos w s a 0 st := by unfold vain; rw [e]; simp
    have := q S' pa' ha'
    rw [ev, e] at this
    refine this ⟨d'.ho, d'.hp, d'.hh, d'.hl, d'.ne, fun b x h => d'.fr b x ?_, d.fo, ?_, ?_, d.fl⟩
    · rw [su_ne (fun z => by subst z; rw [fhc] at h; cases h), su_ne (fun z => by subst z; rw [fpc] at h; cases h)]; exact h
    · exact su_none (su_none d'.fp)
    · exact su_none (su_none d'.fh)
  | true =>
    refine Br.ff ?_
    have ev : vain w s a b st = gos w s b 0 ⟨st.puts, st.held, (gos w s a 0 st).2.looked⟩ := by unfold vain; rw [e]; simp
    rw [ev] at q
    have oka := gos_ok (w := w) s a 0 st oa ok
    refine ⟨_, rfl, ⟨_, rfl, ⟨_, _, rfl, d'.ho, (show 2 ≤ 5 by decide), ?_⟩⟩⟩
    refine ⟨_, rfl, ⟨_, rfl, ⟨_, _, rfl, su_same, (show 3 ≤ 5 by decide), ?_⟩⟩⟩
    rw [su_su]
    have hp2 : S' pc = some (.dic (encI D.int st.puts)) := d'.fr _ _ (by rw [su_ne hpc']; exact su_same)
    have hh2 : S' hc' = some (.lst (st.held.map .int)) := d'.fr _ _ su_same
    have d2 : DoAt F (su S' o (.ins 1 [.int w, .tup (s.map .int), .ref pc, .ref hc', .ref la])) o pc hc' la w s ⟨st.puts, st.held, (gos w s a 0 st).2.looked⟩ := by
      have no : F o = none := d.fo
      refine ⟨su_same, ?_, ?_, ?_, ?_, fun b x h => ?_, d.fo, fpc, fhc, d.fl⟩
      · rw [su_ne (ne_of hp2 d'.ho (by simp))]; exact hp2
      · rw [su_ne (ne_of hh2 d'.ho (by simp))]; exact hh2
      · rw [su_ne (ne_of d'.hl d'.ho (by simp))]; exact d'.hl
      · exact fun z => by subst z; rw [d.hl] at hpc; cases hpc
      · rw [su_ne (fun z => by subst z; rw [no] at h; cases h)]
        refine d'.fr b x ?_
        rw [su_ne (fun z => by subst z; rw [fhc] at h; cases h), su_ne (fun z => by subst z; rw [fpc] at h; cases h)]; exact h
    refine ⟨_, rfl, ⟨_, _, rfl, by rw [c41]; exact d2.ho, ⟨_, rfl, ?_⟩⟩⟩
    exact W b F _ pc hc' _ _ db ob (by omega) d2 ⟨ok.h4, ok.pk, ok.pr, oka.lk, oka.lr, oka.lt⟩ fun S'' pa'' ha'' d'' => q S'' pa'' ha'' d''
end
end LW

/-! A5: Doing.waits. -/
namespace LW
open PySem L2 PySem.Spec PyProof.Rows DL
theorem drop_nat {ds : List Deed} {at_ : Int} (h0 : 0 ≤ at_) (h : ¬ at_ < ds.length) : ds.drop at_.toNat = [] := List.drop_eq_nil_of_le (by omega)
section
variable {T : Tbl} {o la : Addr} {w nw : Int} {s : List Int}
theorem waits_ok (E : DoT T) (w0 : 0 < w) (hs : s.length ≤ 6) : ∀ (t n : Nat), WaitsOk T o la w nw s (n + 3 + 2 * t) t := by
  intro t
  induction t using Nat.strongRecOn with
  | _ t ih =>
  intro n ds F S pa ha st Q hdep hok hlen d ok q
  rw [show n + 3 + 2 * t = (n + 2 + 2 * t) + 1 by omega]
  refine ⟨_, E.f41, rfl, rfl, ?_⟩
  have hp : ∀ (dd : Deed) (S' : Hs) (pa' ha' : Addr) (st' : St) (Q : VK2), okDeed s.length nw dd → isPl dd = true → DoAt F S' o pa' ha' la w s st' → OkSt s.length st' → (∀ S'', DoAt F S'' o pa' ha' la w s (plainS w s dd st') → Q (.d .non) S'') →
      cal T (n + 2 + 2 * t) 40 [.d (.ref o), .d (encD dd)] S' Q := fun dd S' pa' ha' st' Q h1 h2 d' ok' q' => by
    rw [show n + 2 + 2 * t = (n + 2 * t) + 2 by omega]
    exact Doing_plain_ok E (n + 2 * t) h1 h2 w0 d' hs ok' q'
  have hv : ∀ (a b : List Deed) (S' : Hs) (pa' ha' : Addr) (st' : St) (Q : VK2), 1 ≤ t → deps a ≤ t - 1 → deps b ≤ t - 1 → okDeeds s.length nw a → okDeeds s.length nw b → a.length ≤ 12 → b.length ≤ 12 → DoAt F S' o pa' ha' la w s st' → OkSt s.length st' →
      (∀ S'' pa'' ha'', DoAt F S'' o pa'' ha'' la w s (vain w s a b st').2 → Q (.d (.bl (vain w s a b st').1)) S'') → cal T (n + 2 + 2 * t) 42 [.d (.ref o), .d (.tup (encs a)), .d (.tup (encs b))] S' Q := fun a b S' pa' ha' st' Q h1 h2 h3 h4 h5 h6 h7 h8 h9 h10 => by
    have := vain_ok E (ih (t - 1) (by omega) n) (F := F) (S := S') (pa := pa') (ha := ha') (st := st') (Q := Q) h2 h3 h4 h5 h6 h7 h8 h9 h10
    rw [show n + 3 + 2 * (t - 1) + 1 = n + 2 + 2 * t by omega] at this
    exact this
  generalize cal T (n + 2 + 2 * t) = c at hp hv ⊢
  have c40 := E.c40
  have c42 := E.c42
  refine whl_inv (fun m σ S' => ∃ (at_ : Int) (s3 : Option Vx) (st' : St) (pa' ha' : Addr), σ = [some (.d (.ref o)), some (.d (.tup (encs ds))), some (.d (.int at_)), s3] ∧ 0 ≤ at_ ∧ m = (ds.drop at_.toNat).length ∧ DoAt F S' o pa' ha' la w s st' ∧ OkSt s.length st' ∧
    gos w s ds 0 st = gos w s (ds.drop at_.toNat) 0 st') ?_ (m := ds.length) ⟨0, _, st, pa, ha, rfl, by omega, rfl, d, ok, rfl⟩
  rintro m σ S' kk hk ⟨at_, s3, st', pa', ha', rfl, h0, rfl, d', ok', e⟩
  have hl : (((encs ds).length : Nat) : Int) = (ds.length : Int) := by rw [encs_length]
  refine ⟨_, rfl, ⟨_, rfl, ⟨_, rfl, ?_⟩⟩⟩
  refine Br.dec (fun hlt => ?_) (fun hlt => ?_)
  · have hlt : at_ < (ds.length : Int) := by omega
    obtain ⟨dd, e1, e2, hm⟩ := encs_at h0 hlt
    have hdd := okDeeds_mem hok hm
    have hrl : (ds.drop (at_.toNat + 1)).length < (ds.drop at_.toNat).length := by rw [e1]; simp
    rw [e1] at e
    -- what follows a turn
    have nxt : ∀ (st'' : St) (S'' : Hs) (pa'' ha'' : Addr) (j : Nat) (s3 : Option Vx), DoAt F S'' o pa'' ha'' la w s st'' → OkSt s.length st'' → gos w s ds 0 st = gos w s (ds.drop (at_.toNat + 1)) j st'' →
        kk [some (.d (.ref o)), some (.d (.tup (encs ds))), some (.d (.int (at_ + 1 + j))), s3] S'' := fun st'' S'' pa'' ha'' j s3 d'' ok'' e' => by
      refine hk _ _ _ ?_ ⟨at_ + 1 + j, s3, st'', pa'', ha'', rfl, by omega, rfl, d'', ok'', ?_⟩
      · have : (at_ + 1 + (j : Int)).toNat = at_.toNat + 1 + j := by omega
        rw [this, ← List.drop_drop, List.length_drop]
        exact Nat.lt_of_le_of_lt (Nat.sub_le _ _) hrl
      · have : (at_ + 1 + (j : Int)).toNat = at_.toNat + 1 + j := by omega
        rw [this, ← List.drop_drop, ← gos_drop]
        exact e'
    have nxt0 : ∀ (st'' : St) (S'' : Hs) (pa'' ha'' : Addr) (s3 : Option Vx), DoAt F S'' o pa'' ha'' la w s st'' → OkSt s.length st'' → gos w s ds 0 st = gos w s (ds.drop (at_.toNat + 1)) 0 st'' →
        kk [some (.d (.ref o)), some (.d (.tup (encs ds))), some (.d (.int (at_ + 1))), s3] S'' := fun st'' S'' pa'' ha'' s3 d'' ok'' e' => by
      have := nxt st'' S'' pa'' ha'' 0 s3 d'' ok'' e'
      simpa using this
    refine ⟨_, rfl, ⟨_, rfl, ⟨_, e2, ?_⟩⟩⟩
    refine ⟨_, rfl, ?_⟩
    have pl : isPl dd = true → gos w s (dd :: ds.drop (at_.toNat + 1)) 0 st' = gos w s (ds.drop (at_.toNat + 1)) 0 (plainS w s dd st') := fun z => by cases dd <;> first | (cases z; done) | rw [gos]
    cases dd with
    | wait =>
      refine ⟨_, rfl, ⟨_, rfl, rfl, rfl, Br.tt (Br.tt ?_)⟩⟩
      have e' : gos w s (.wait :: ds.drop (at_.toNat + 1)) 0 st' = (true, st') := by rw [gos]
      rw [e'] at e
      rw [e] at q
      exact q _ _ _ d'
    | leap h x =>
      refine ⟨_, rfl, ⟨_, rfl, rfl, rfl, Br.ff ?_⟩⟩
      refine ⟨_, rfl, ⟨_, rfl, rfl, rfl, Br.ff ?_⟩⟩
      refine Br.ff ?_
      refine ⟨_, rfl, ⟨_, rfl, rfl, rfl, Br.tt ?_⟩⟩
      unfold okDeed at hdd
      obtain ⟨g0, g4, x1, x12⟩ := hdd
      have e' : gos w s (.leap h x :: ds.drop (at_.toNat + 1)) 0 st' = gos w s (ds.drop (at_.toNat + 1)) (if iget st'.held h = 0 then x.toNat else 0) st' := by rw [gos]
      rw [e'] at e
      refine ⟨_, rfl, ⟨_, rfl, ⟨_, rfl, ⟨_, rfl, ⟨_, _, rfl, d'.ho, _, rfl, ⟨_, rfl, ⟨_, rfl, ⟨_, d'.hh, ⟨_, getI_ints g0 (by rw [ok'.h4]; omega), ?_⟩⟩⟩⟩⟩⟩⟩⟩⟩
      refine ⟨rfl, rfl, ?_⟩
      by_cases hz : iget st'.held h = 0
      · rw [if_pos hz] at e
        have hb : eqB (.int (iget st'.held h)) (.int 0) = true := decide_eq_true hz
        show mulOk x (if eqB (.int (iget st'.held h)) (.int 0) = true then 1 else 0) ∧ kk [_, _, some (.d (.int (at_ + 1 + x * (if eqB (.int (iget st'.held h)) (.int 0) = true then 1 else 0)))), _] _
        rw [hb]
        refine ⟨.inl (.inr (by decide)), ?_⟩
        have ex : at_ + 1 + x * (if true = true then 1 else 0) = at_ + 1 + (x.toNat : Int) := by simp; omega
        rw [ex]
        exact nxt st' _ pa' ha' x.toNat _ d' ok' e
      · rw [if_neg hz] at e
        have hb : eqB (.int (iget st'.held h)) (.int 0) = false := decide_eq_false hz
        show mulOk x (if eqB (.int (iget st'.held h)) (.int 0) = true then 1 else 0) ∧ kk [_, _, some (.d (.int (at_ + 1 + x * (if eqB (.int (iget st'.held h)) (.int 0) = true then 1 else 0)))), _] _
        rw [hb]
        refine ⟨.inl (.inr (by decide)), ?_⟩
        have ex : at_ + 1 + x * (if false = true then 1 else 0) = at_ + 1 + ((0 : Nat) : Int) := by simp
        rw [ex]
        exact nxt st' _ pa' ha' 0 _ d' ok' e
    | try_ a b =>
      have hdep2 := Nat.le_trans (deps_mem hm) hdep
      unfold depD at hdep2
      unfold okDeed at hdd
      refine ⟨_, rfl, ⟨_, rfl, rfl, rfl, Br.ff ?_⟩⟩
      refine ⟨_, rfl, ⟨_, rfl, rfl, rfl, Br.tt ?_⟩⟩
      refine ⟨_, rfl, ⟨_, _, rfl, by rw [c42]; exact d'.ho, ⟨_, rfl, ⟨_, rfl, ⟨_, rfl, ⟨_, rfl, ?_⟩⟩⟩⟩⟩⟩
      refine hv a b S' pa' ha' st' _ (by omega) (by omega) (by omega) hdd.1.1 hdd.2.1 hdd.1.2 hdd.2.2 d' ok' fun S'' pa'' ha'' d'' => ?_
      rw [gos_try] at e
      have okv : OkSt s.length (vain w s a b st').2 := by
        have oka := gos_ok (w := w) s a 0 st' hdd.1.1 ok'
        unfold vain
        split
        · exact gos_ok (w := w) s b 0 _ hdd.2.1 ⟨ok'.h4, ok'.pk, ok'.pr, oka.lk, oka.lr, oka.lt⟩
        · exact oka
      cases ev : (vain w s a b st').1 with
      | true =>
        refine Br.tt ?_
        rw [if_pos ev] at e
        rw [e, ev] at q
        exact q _ _ _ d''
      | false =>
        refine Br.ff ?_
        rw [if_neg (by rw [ev]; simp)] at e
        refine ⟨_, rfl, ⟨_, rfl, rfl, rfl, Br.ff ?_⟩⟩
        refine ⟨_, rfl, ⟨_, rfl, rfl, rfl, Br.ff ?_⟩⟩
        exact nxt0 _ S'' pa'' ha'' _ d'' okv e
    | look h b =>
      rw [pl rfl] at e
      refine ⟨_, rfl, ⟨_, rfl, rfl, rfl, Br.ff ⟨_, rfl, ⟨_, rfl, rfl, rfl, Br.ff (Br.ff ⟨_, rfl, ⟨_, rfl, rfl, rfl, Br.ff ⟨_, rfl, ⟨_, rfl, rfl, rfl, Br.tt ⟨_, rfl, ⟨_, _, rfl, by rw [c40]; exact d'.ho, ⟨_, rfl, ?_⟩⟩⟩⟩⟩⟩⟩)⟩⟩⟩⟩
      exact hp _ S' pa' ha' st' _ hdd rfl d' ok' fun S'' d'' => nxt0 _ S'' pa' ha' _ d'' (ok'.plain s hdd) e
    | put b h =>
      rw [pl rfl] at e
      refine ⟨_, rfl, ⟨_, rfl, rfl, rfl, Br.ff ⟨_, rfl, ⟨_, rfl, rfl, rfl, Br.ff (Br.ff ⟨_, rfl, ⟨_, rfl, rfl, rfl, Br.ff ⟨_, rfl, ⟨_, rfl, rfl, rfl, Br.tt ⟨_, rfl, ⟨_, _, rfl, by rw [c40]; exact d'.ho, ⟨_, rfl, ?_⟩⟩⟩⟩⟩⟩⟩)⟩⟩⟩⟩
      exact hp _ S' pa' ha' st' _ hdd rfl d' ok' fun S'' d'' => nxt0 _ S'' pa' ha' _ d'' (ok'.plain s hdd) e
    | set h x =>
      rw [pl rfl] at e
      refine ⟨_, rfl, ⟨_, rfl, rfl, rfl, Br.ff ⟨_, rfl, ⟨_, rfl, rfl, rfl, Br.ff (Br.ff ⟨_, rfl, ⟨_, rfl, rfl, rfl, Br.ff ⟨_, rfl, ⟨_, rfl, rfl, rfl, Br.tt ⟨_, rfl, ⟨_, _, rfl, by rw [c40]; exact d'.ho, ⟨_, rfl, ?_⟩⟩⟩⟩⟩⟩⟩)⟩⟩⟩⟩
      exact hp _ S' pa' ha' st' _ hdd rfl d' ok' fun S'' d'' => nxt0 _ S'' pa' ha' _ d'' (ok'.plain s hdd) e
    | plus g h =>
      rw [pl rfl] at e
      refine ⟨_, rfl, ⟨_, rfl, rfl, rfl, Br.ff ⟨_, rfl, ⟨_, rfl, rfl, rfl, Br.ff (Br.ff ⟨_, rfl, ⟨_, rfl, rfl, rfl, Br.ff ⟨_, rfl, ⟨_, rfl, rfl, rfl, Br.tt ⟨_, rfl, ⟨_, _, rfl, by rw [c40]; exact d'.ho, ⟨_, rfl, ?_⟩⟩⟩⟩⟩⟩⟩)⟩⟩⟩⟩
      exact hp _ S' pa' ha' st' _ hdd rfl d' ok' fun S'' d'' => nxt0 _ S'' pa' ha' _ d'' (ok'.plain s hdd) e
  · have e' : gos w s (ds.drop at_.toNat) 0 st' = (false, st') := by rw [drop_nat h0 (by omega), gos]
    rw [e'] at e
    rw [e] at q
    exact q _ _ _ d'
end
end LW

/-! A6: alone. -/
namespace LW
open PySem L2 PySem.Spec PyProof.Rows DL
theorem lev {T : Tbl} {a b f : Nat} {xs : List Vx} {S : Hs} {Q : VK2} (e : a = b) (h : cal T a f xs S Q) : cal T b f xs S Q := e ▸ h
def Ext (F S : Hs) : Prop := ∀ b x, F b = some x → S b = some x
theorem Ext.refl {F : Hs} : Ext F F := fun _ _ h => h
theorem Ext.trans {A B C : Hs} (h : Ext A B) (k : Ext B C) : Ext A C := fun b x e => k b x (h b x e)
theorem Ext.new {F S : Hs} {a : Addr} {x : O} (h : Ext F S) (n : F a = none) : Ext F (su S a x) := fun b y e => by rw [su_ne (ne_none e n)]; exact h b y e
theorem Ext.none {F S : Hs} {a : Addr} (h : Ext F S) (n : S a = none) : F a = none := fr_none h n
/-- sorted -/
def srt (l : List Int) : List Int := l.mergeSort (fun a b => decide (a ≤ b))
theorem srt_perm (l : List Int) : (srt l).Perm l := List.mergeSort_perm l _
theorem srt_pw (l : List Int) : (srt l).Pairwise (· ≤ ·) := by
  have := List.pairwise_mergeSort (le := fun a b : Int => decide (a ≤ b)) (fun a b c h1 h2 => by simp at *; omega) (fun a b => by simp; omega) l
  exact this.imp (by simp)
theorem sorted_eq : ∀ {a b : List Int}, a.Perm b → a.Pairwise (· ≤ ·) → b.Pairwise (· ≤ ·) → a = b
  | [], b, p, _, _ => by simpa using p
  | x :: a, [], p, _, _ => by simp at p
  | x :: a, y :: b, p, h, k => by
    have hx : x ∈ y :: b := p.subset List.mem_cons_self
    have hy : y ∈ x :: a := p.symm.subset List.mem_cons_self
    rw [List.pairwise_cons] at h k
    have e : x = y := by
      rcases List.mem_cons.mp hx with e | hx
      · exact e
      · rcases List.mem_cons.mp hy with e | hy
        · exact e.symm
        · have := h.1 y hy; have := k.1 x hx; omega
    subst e
    rw [sorted_eq (List.perm_cons x |>.mp p) h.2 k.2]
theorem srt_eq {l m : List Int} (p : m.Perm l) (h : m.Pairwise (· ≤ ·)) : m = srt l := sorted_eq (p.trans (srt_perm l).symm) h (srt_pw l)
abbrev sWaits : D := .str [119, 97, 105, 116, 115]
abbrev sDone : D := .str [100, 111, 110, 101]
/-- what alone tells, in a heap -/
def AlR (F : Hs) (w : Int) (s : List Int) (ds : List Deed) (Q : VK2) : Prop :=
  ∀ S', Ext F S' → if (gos w s ds 0 st0).1 = true then ∀ l, F l = none → S' l = some (.lst ((srt ((gos w s ds 0 st0).2.looked.map Prod.fst)).map .int)) → Q (.d (.tup [sWaits, .ref l])) S'
    else Q (.d (.tup [sDone, .tup ((nowS s (gos w s ds 0 st0).2.puts).map .int), .tup ((gos w s ds 0 st0).2.held.map .int)])) S'
section
variable {T : Tbl} {F S : Hs} {o pa ha la : Addr} {w : Int} {s : List Int} {st : St} {Q : VK2}
theorem Doing_init_ok (hT : T.fn 37 = some f_Doing_init) (hg : T.glob 10 = .d (.int 4)) (n : Nat) {a : Int} (e : Ext F S) (fo : F o = none) (ho : S o = some (.ins 1 []))
    (q : ∀ S' pa ha la, DoAt F S' o pa ha la w s st0 → Q (.d .non) S') : cal T (n + 1) 37 [.d (.ref o), .d (.tup [.int a, .int w]), .d (.tup (s.map .int))] S Q := by
  refine ⟨_, hT, rfl, rfl, ?_⟩
  generalize cal T n = c
  refine ⟨_, rfl, ⟨_, rfl, ⟨_, rfl, ⟨_, _, rfl, ho, (show 0 ≤ 0 by decide), ?_⟩⟩⟩⟩
  refine ⟨_, rfl, ⟨_, rfl, ⟨_, _, rfl, su_same, (show 1 ≤ 1 by decide), ?_⟩⟩⟩
  rw [su_su]
  intro pa hpa
  have n1 : S pa = none := su_none hpa
  have op : o ≠ pa := fun z => by subst z; rw [ho] at n1; cases n1
  refine ⟨_, rfl, ⟨_, _, rfl, (su_ne op).trans su_same, (show 2 ≤ 2 by decide), ?_⟩⟩
  refine ⟨_, rfl, (show 1 ≤ sizeLine by decide), ?_⟩
  show op2D .mul (.vl [.int 0]) (T.glob 10) _ _
  rw [hg]
  refine ⟨by decide, ⟨by decide, by decide, ?_⟩⟩
  intro ha hha
  have n2' := su_none hha
  have n2 : S ha = none := su_none (su_none n2')
  have oh : o ≠ ha := fun z => by subst z; rw [ho] at n2; cases n2
  have ph : pa ≠ ha := fun z => by subst z; rw [su_same] at n2'; cases n2'
  refine ⟨_, rfl, ⟨_, _, rfl, (su_ne oh).trans su_same, (show 3 ≤ 3 by decide), ?_⟩⟩
  intro la hla
  have n3' := su_none (su_none (su_none hla))
  have n3'' := su_none (su_none hla)
  have n3 : S la = none := su_none (su_none n3')
  have ol : o ≠ la := fun z => by subst z; rw [ho] at n3; cases n3
  have pl : pa ≠ la := fun z => by subst z; rw [su_same] at n3'; cases n3'
  have hl : ha ≠ la := fun z => by subst z; rw [su_ne oh.symm, su_same] at hla; cases hla
  refine ⟨_, rfl, ⟨_, _, rfl, (su_ne ol).trans su_same, (show 4 ≤ 4 by decide), ?_⟩⟩
  refine q _ pa ha la ⟨su_same, ?_, ?_, ?_, pl, ?_, fo, e.none n1, e.none n2, e.none n3⟩
  · rw [su_ne op.symm, su_ne pl, su_ne op.symm, su_ne ph, su_ne op.symm, su_same]; rfl
  · rw [su_ne oh.symm, su_ne hl, su_ne oh.symm, su_same]; rfl
  · rw [su_ne ol.symm, su_same]; rfl
  · exact ((((((e.new fo).new (e.none n1)).new fo).new (e.none n2)).new fo).new (e.none n3)).new fo
/-- the numbers, one by one -/
def nowF (puts : List (Int × Int)) : D → D
  | .tup [k, y] => (dget (encI D.int puts) k).getD y
  | x => x
theorem now_map (puts : List (Int × Int)) : ∀ (s : List Int) (i : Nat), (enumD i (s.map D.int)).map (nowF puts) = ((List.range s.length).map fun b => ((pget puts ((i + b : Nat) : Int)).getD (s.getD b 0))).map D.int
  | [], i => rfl
  | x :: s, i => by
    have ih := now_map puts s (i + 1)
    rw [List.length_cons, List.range_succ_eq_map]
    show nowF puts (.tup [.int i, .int x]) :: (enumD (i + 1) (s.map D.int)).map (nowF puts) = _
    rw [ih]
    simp only [List.map_cons, List.map_map]
    congr 1
    · show (dget (encI D.int puts) (.int i)).getD (.int x) = _
      rw [dget_enc]
      show ((pget puts i).map D.int).getD (.int x) = .int ((pget puts ((i + 0 : Nat) : Int)).getD x)
      cases e : pget puts i <;> simp [e]
    · refine List.map_congr_left fun b _ => ?_
      show D.int ((pget puts ((i + 1 + b : Nat) : Int)).getD (s.getD b 0)) = D.int ((pget puts ((i + (b + 1) : Nat) : Int)).getD ((x :: s).getD (b + 1) 0))
      rw [show i + 1 + b = i + (b + 1) by omega]
      rfl
theorem now_map0 (puts : List (Int × Int)) (s : List Int) : (enumD 0 (s.map D.int)).map (nowF puts) = (nowS s puts).map D.int := by
  rw [now_map]
  unfold nowS
  congr 1
  refine List.map_congr_left fun b _ => ?_
  rw [Nat.zero_add]
  rfl
theorem enumD_shape : ∀ (s : List Int) (i : Nat), ∀ x ∈ enumD i (s.map D.int), ∃ a b : Int, x = .tup [.int a, .int b]
  | [], i, x, h => by cases h
  | y :: s, i, x, h => by
    rcases List.mem_cons.mp h with rfl | h
    · exact ⟨i, y, rfl⟩
    · exact enumD_shape s (i + 1) x h
theorem Doing_now_ok (hT : T.fn 38 = some f_Doing_now) (n : Nat) (d : DoAt F S o pa ha la w s st) (hs : s.length ≤ 6) (q : Q (.d (.tup ((nowS s st.puts).map .int))) S) : cal T (n + 1) 38 [.d (.ref o)] S Q := by
  refine ⟨_, hT, rfl, rfl, ?_⟩
  generalize cal T n = c
  refine ⟨_, rfl, ⟨_, _, rfl, d.ho, _, rfl, ?_⟩⟩
  refine compL_map (nowF st.puts) (by trivial) _ _ ?_ ?_ ?_
  · intro x hx P1 P2 k
    obtain ⟨a, b, rfl⟩ := enumD_shape s 0 x hx
    refine ⟨_, rfl, Br.tt ?_⟩
    refine ⟨_, rfl, ⟨_, _, rfl, d.ho, _, rfl, ⟨⟨_, d.hp, _, rfl⟩, ⟨_, rfl, ⟨_, rfl, ⟨_, d.hp, _, _, _, rfl, rfl, rfl, rfl, k⟩⟩⟩⟩⟩⟩
  · show 0 + (enumD 0 (s.map D.int)).length ≤ sizeLine
    rw [enumD_length, List.length_map]
    exact Nat.le_trans (by omega : 0 + s.length ≤ 6) (by decide)
  · refine ⟨_, rfl, ?_⟩
    show Q (.d (.tup ([] ++ (enumD 0 (s.map D.int)).map (nowF st.puts)))) S
    rw [now_map0, List.nil_append]
    exact q
theorem alone_ok (E : DoT T) (f37 : T.fn 37 = some f_Doing_init) (f38 : T.fn 38 = some f_Doing_now) (c38 : T.fcls 38 = 1) (hi : T.cini 1 = 37) (hg : T.glob 10 = .d (.int 4)) (hT : T.fn 43 = some f_alone) (n t : Nat) {a nw : Int} {ds : List Deed} (w0 : 0 < w) (hs : s.length ≤ 6) (hdep : deps ds ≤ t) (hok : okDeeds s.length nw ds) (hlen : ds.length ≤ 1000)
    (q : AlR S w s ds Q) : cal T (n + 4 + 2 * t) 43 [.d (.tup [.int a, .int w]), .d (.tup (encs ds)), .d (.tup (s.map .int))] S Q := by
  rw [show n + 4 + 2 * t = (n + 3 + 2 * t) + 1 by omega]
  refine ⟨_, hT, rfl, rfl, ?_⟩
  have k1 := fun (S0 : Hs) (o : Addr) Q e fo ho q => lev (b := n + 3 + 2 * t) (by omega) (Doing_init_ok (F := S) (S := S0) (o := o) (w := w) (s := s) (Q := Q) f37 hg (n + 2 + 2 * t) (a := a) e fo ho q)
  have k2 := fun o la => waits_ok (o := o) (la := la) (nw := nw) (s := s) E w0 hs t n
  have k3 := fun (S0 : Hs) (o pa ha la : Addr) (st : St) Q d q => lev (b := n + 3 + 2 * t) (by omega) (Doing_now_ok (F := S) (S := S0) (o := o) (pa := pa) (ha := ha) (la := la) (w := w) (s := s) (st := st) (Q := Q) f38 (n + 2 + 2 * t) d hs q)
  unfold WaitsOk at k2
  generalize cal T (n + 3 + 2 * t) = c at k1 k2 k3 ⊢
  refine ⟨_, rfl, ⟨_, rfl, fun o ho => ?_⟩⟩
  rw [hi]
  refine k1 _ o _ (Ext.refl.new ho) ho su_same fun S1 pa ha la d => ⟨rfl, ?_⟩
  refine ⟨_, rfl, ⟨_, _, rfl, by rw [E.c41]; exact d.ho, ⟨_, rfl, ?_⟩⟩⟩
  refine k2 o la ds S S1 pa ha st0 _ hdep hok hlen d (st0_ok _) fun S2 pa' ha' d2 => ?_
  have okf := gos_ok (w := w) s ds 0 st0 hok (st0_ok _)
  have q2 := q S2 d2.fr
  unfold AlR at q
  cases e : (gos w s ds 0 st0).1 with
  | true =>
    refine Br.tt ?_
    have hlk : ((gos w s ds 0 st0).2.looked.map Prod.fst).length ≤ 6 := Nat.le_trans (nodup_le s.length _ okf.lk okf.lr) hs
    refine ⟨_, rfl, ⟨_, _, rfl, d2.ho, _, rfl, ⟨_, d2.hl, (gos w s ds 0 st0).2.looked.map Prod.fst, .inr (.inl ⟨_, rfl, ?_, by omega⟩), fun ns p pw => ?_⟩⟩⟩
    · simp [encI]
    intro l hl
    refine ⟨_, rfl, (show 2 ≤ sizeLine by decide), ?_⟩
    have := q (su S2 l (.lst (ns.map .int))) (Ext.new d2.fr (fr_none d2.fr hl))
    rw [if_pos e] at this
    exact this l (fr_none d2.fr hl) (by rw [su_same, srt_eq p pw])
  | false =>
    refine Br.ff ?_
    rw [if_neg (by rw [e]; simp)] at q2
    refine ⟨_, rfl, ⟨_, _, rfl, by rw [c38]; exact d2.ho, ?_⟩⟩
    refine k3 _ o pa' ha' la _ _ d2 ?_
    refine ⟨_, rfl, ⟨_, _, rfl, d2.ho, _, rfl, ⟨_, d2.hh, _, rfl, ⟨_, rfl, (show 3 ≤ sizeLine by decide), q2⟩⟩⟩⟩
end
end LW

/-! A7: the law's own doing. -/
namespace LW
open PySem L2 PySem.Spec PyProof.Rows DL
theorem encs_map : ∀ l : List Deed, encs l = l.map encD
  | [] => rfl
  | d :: l => by simp [encs, encs_map l]
/-- a walk over what a list stands for; the invariant speaks of what is left -/
theorem forL_map {α : Type} {tg : Tg} {ok : SK2} {body : SK2 → SK2} {nx : SK2} (f : α → D) {xs : List α} (I : List α → SK2) (hok : ∀ l σ S, I l σ S → ok σ S) (hend : ∀ σ S, I [] σ S → nx σ S)
    (step : ∀ x rest, x ∈ xs → (∃ pre, xs = pre ++ x :: rest) → ∀ (k : SK2) σ S, (∀ σ S, I rest σ S → k σ S) → I (x :: rest) σ S → bindT tg (f x) σ fun σ' => body k σ' S) : ∀ σ S, I xs σ S → forL tg ok body nx (xs.map f) σ S := by
  have key : ∀ post pre, xs = pre ++ post → ∀ σ S, I post σ S → forL tg ok body nx (post.map f) σ S := by
    intro post
    induction post with
    | nil => intro pre e σ S i; exact ⟨hok _ _ _ i, hend _ _ i⟩
    | cons x post ih => exact fun pre e σ S i => ⟨hok _ _ _ i, step x post (by rw [e]; simp) ⟨pre, e⟩ _ σ S (fun σ S => ih (pre ++ [x]) (by rw [e]; simp) σ S) i⟩
  exact key xs [] rfl
theorem forL_encs {tg : Tg} {ok : SK2} {body : SK2 → SK2} {nx : SK2} {xs : List Deed} (I : List Deed → SK2) (hok : ∀ l σ S, I l σ S → ok σ S) (hend : ∀ σ S, I [] σ S → nx σ S)
    (step : ∀ x rest, x ∈ xs → (∃ pre, xs = pre ++ x :: rest) → ∀ (k : SK2) σ S, (∀ σ S, I rest σ S → k σ S) → I (x :: rest) σ S → bindT tg (encD x) σ fun σ' => body k σ' S) : ∀ σ S, I xs σ S → forL tg ok body nx (encs xs) σ S := by
  rw [encs_map]
  exact forL_map encD I hok hend step
theorem pls_ints (n : Nat) (l : List Int) : pls n (l.map D.int) = true := by
  induction l with
  | nil => simp [pls]
  | cons x l ih => simp only [List.map_cons, pls, ih, Bool.and_true]; cases n <;> rfl
theorem any_ints (l : List Int) (x : Int) : ((l.map D.int).any fun y => eqB y (.int x)) = decide (x ∈ l) := by
  induction l with
  | nil => rfl
  | cons y l ih =>
    rw [List.map_cons, List.any_cons, ih]
    show (decide (y = x) || decide (x ∈ l)) = _
    by_cases e : y = x
    · subst e; simp
    · have : ¬ x = y := fun q => e q.symm
      simp [e, this]
theorem mem_ints {l : List Int} {x : Int} {K : Bool → Prop} (k : K (decide (x ∈ l))) : memC (.l (l.map D.int)) (.int x) K := ⟨rfl, pls_ints _ _, by rw [any_ints]; exact k⟩
theorem nowS_len (s : List Int) (puts : List (Int × Int)) : (nowS s puts).length = s.length := by simp [nowS]
theorem nowS_get {s : List Int} {puts : List (Int × Int)} {b : Int} (h0 : 0 ≤ b) (h1 : b < s.length) : iget (nowS s puts) b = seen s puts b := by
  obtain ⟨n, rfl⟩ := Int.eq_ofNat_of_zero_le h0
  have hn : n < s.length := by omega
  unfold iget nowS
  simp [List.getD, hn]
theorem nowS_put {s : List Int} {puts : List (Int × Int)} {b x : Int} (h0 : 0 ≤ b) (h1 : b < s.length) : iset (nowS s puts) b x = nowS s (pput puts b x) := by
  obtain ⟨n, rfl⟩ := Int.eq_ofNat_of_zero_le h0
  have hn : n < s.length := by omega
  unfold iset nowS
  refine List.ext_getElem (by simp) fun i h1 h2 => ?_
  have hi : i < s.length := by simpa using h2
  rw [List.getElem_set]
  simp only [List.getElem_map, List.getElem_range, Int.toNat_natCast]
  unfold seen
  rw [pget_put]
  by_cases e : n = i
  · subst e; simp
  · have : ¬ (n : Int) = (i : Int) := by omega
    simp [e, this]
abbrev kState : D := .str [115, 116, 97, 116, 101]
abbrev kOwn : D := .str [111, 119, 110]
abbrev kHands : D := .str [104, 97, 110, 100, 115]
abbrev kLooked : D := .str [108, 111, 111, 107, 101, 100]
def keysD {α : Type} (l : List (Int × α)) : List D := (l.map Prod.fst).map D.int
def nowD (sa oa ha la : Addr) : List (D × D) := [(kState, .ref sa), (kOwn, .ref oa), (kHands, .ref ha), (kLooked, .ref la)]
structure LwAt (F S : Hs) (na sa oa ha la : Addr) (s : List Int) (st : St) : Prop where
  hn : S na = some (.dic (nowD sa oa ha la))
  hs : S sa = some (.lst ((nowS s st.puts).map .int))
  ho : S oa = some (.lst (keysD st.puts))
  hh : S ha = some (.lst (st.held.map .int))
  hl : S la = some (.lst (keysD st.looked))
  d1 : sa ≠ oa
  d2 : sa ≠ ha
  d3 : sa ≠ la
  d4 : oa ≠ ha
  d5 : oa ≠ la
  d6 : ha ≠ la
  fr : Ext F S
  fn : F na = none
  fs : F sa = none
  fo : F oa = none
  fh : F ha = none
  fl : F la = none
section
variable {F S : Hs} {na sa oa ha la : Addr} {s : List Int} {st : St}
theorem LwAt.setH (d : LwAt F S na sa oa ha la s st) (l : List Int) : LwAt F (su S ha (.lst (l.map .int))) na sa oa ha la s ⟨st.puts, l, st.looked⟩ :=
  ⟨by rw [su_ne (ne_of d.hn d.hh (by simp))]; exact d.hn, by rw [su_ne d.d2]; exact d.hs, by rw [su_ne d.d4]; exact d.ho, su_same, by rw [su_ne d.d6.symm]; exact d.hl, d.d1, d.d2, d.d3, d.d4, d.d5, d.d6, d.fr.new d.fh, d.fn, d.fs, d.fo, d.fh, d.fl⟩
theorem LwAt.setL (d : LwAt F S na sa oa ha la s st) (l : List (Int × Bool)) : LwAt F (su S la (.lst (keysD l))) na sa oa ha la s ⟨st.puts, st.held, l⟩ :=
  ⟨by rw [su_ne (ne_of d.hn d.hl (by simp))]; exact d.hn, by rw [su_ne d.d3]; exact d.hs, by rw [su_ne d.d5]; exact d.ho, by rw [su_ne d.d6]; exact d.hh, su_same, d.d1, d.d2, d.d3, d.d4, d.d5, d.d6, d.fr.new d.fl, d.fn, d.fs, d.fo, d.fh, d.fl⟩
theorem LwAt.setS (d : LwAt F S na sa oa ha la s st) (l : List (Int × Int)) (e : keysD l = keysD st.puts) : LwAt F (su S sa (.lst ((nowS s l).map .int))) na sa oa ha la s ⟨l, st.held, st.looked⟩ :=
  ⟨by rw [su_ne (ne_of d.hn d.hs (by simp))]; exact d.hn, su_same, by rw [su_ne d.d1.symm, e]; exact d.ho, by rw [su_ne d.d2.symm]; exact d.hh, by rw [su_ne d.d3.symm]; exact d.hl, d.d1, d.d2, d.d3, d.d4, d.d5, d.d6, d.fr.new d.fs, d.fn, d.fs, d.fo, d.fh, d.fl⟩
theorem LwAt.setSO (d : LwAt F S na sa oa ha la s st) (l : List (Int × Int)) : LwAt F (su (su S sa (.lst ((nowS s l).map .int))) oa (.lst (keysD l))) na sa oa ha la s ⟨l, st.held, st.looked⟩ :=
  ⟨by rw [su_ne (ne_of d.hn d.ho (by simp)), su_ne (ne_of d.hn d.hs (by simp))]; exact d.hn, by rw [su_ne d.d1]; exact su_same, su_same, by rw [su_ne d.d4.symm, su_ne d.d2.symm]; exact d.hh, by rw [su_ne d.d5.symm, su_ne d.d3.symm]; exact d.hl, d.d1, d.d2, d.d3, d.d4, d.d5, d.d6, (d.fr.new d.fs).new d.fo, d.fn, d.fs, d.fo, d.fh, d.fl⟩
end
theorem keysD_put {α : Type} (l : List (Int × α)) (x : Int) (y : α) : keysD (pput l x y) = if (pget l x).isSome then keysD l else keysD l ++ [.int x] := by
  unfold keysD
  rw [pput_keys]
  split <;> simp
theorem keysD_len {α : Type} (l : List (Int × α)) : (keysD l).length = l.length := by simp [keysD]
theorem small6 {α : Type} {kvs : List (Int × α)} {n : Nat} (hd : (kvs.map Prod.fst).Nodup) (hr : ∀ z ∈ kvs.map Prod.fst, 0 ≤ z ∧ z < (n : Int)) (hn : n ≤ 1000) : (keysD kvs).length < sizeLine := by
  have := nodup_le n _ hd hr
  rw [List.length_map] at this
  rw [keysD_len]
  exact Nat.lt_of_le_of_lt (Nat.le_trans this hn) (by decide)
section
variable {T : Tbl} {F S : Hs} {na sa oa ha la : Addr} {a w : Int} {s : List Int} {st : St} {Q : VK2}
theorem law_plain_ok (hT : T.fn 44 = some f_law_plain) (n : Nat) {dd : Deed} {nw : Int} (hd : okDeed s.length nw dd) (hp : isPl dd = true) (w0 : 0 < w) (d : LwAt F S na sa oa ha la s st) (hs : s.length ≤ 6) (ok : OkSt s.length st)
    (q : ∀ S', LwAt F S' na sa oa ha la s (plainS w s dd st) → Q (.d .non) S') : cal T (n + 1) 44 [.d (.tup [.int a, .int w]), .d (encD dd), .d (.ref na)] S Q := by
  refine ⟨_, hT, rfl, rfl, ?_⟩
  generalize cal T n = c
  have hh : ∀ h : Int, 0 ≤ h → h < 4 → getI (st.held.map D.int) h = some (.int (iget st.held h)) := fun h h0 h4 => getI_ints h0 (by rw [ok.h4]; omega)
  cases dd with
  | look h b =>
    unfold okDeed at hd
    obtain ⟨h0, h4, b0, b1⟩ := hd
    have gs : getI ((nowS s st.puts).map D.int) b = some (.int (seen s st.puts b)) := by rw [← nowS_get b0 b1]; exact getI_ints b0 (by rw [nowS_len]; exact b1)
    have tail : ∀ (S1 : Hs) (l : List (Int × Bool)), LwAt F S1 na sa oa ha la s ⟨st.puts, st.held, l⟩ → (l = if (pget st.puts b).isSome then st.looked else pput st.looked b true) →
        wpS T c (.seti (.o2 .idx (.v 2) (.s [104, 97, 110, 100, 115])) (.v 4) (.o2 .idx (.o2 .idx (.v 2) (.s [115, 116, 97, 116, 101])) (.v 5))) [some (.d (.tup [.int a, .int w])), some (.d (encD (.look h b))), some (.d (.ref na)), some (.d sLook), some (.d (.int h)), some (.d (.int b))] S1 (fun _ S' => Q (.d .non) S') Q (fun _ _ => False) (fun _ _ => False) := by
      intro S1 l d1 el
      refine ⟨_, rfl, ⟨_, d1.hn, rfl, _, rfl, ⟨_, rfl, ⟨_, d1.hs, _, gs, ?_⟩⟩⟩⟩
      refine ⟨_, rfl, ⟨_, d1.hn, rfl, _, rfl, ⟨_, rfl, ⟨_, _, _, rfl, d1.hh, rfl, ?_⟩⟩⟩⟩
      refine seti_lst h0 (by rw [List.length_map, ok.h4]; omega) ⟨_, rfl, ?_⟩
      rw [set_ints]
      refine q _ ?_
      have := d1.setH (iset st.held h (seen s st.puts b))
      show LwAt F _ na sa oa ha la s (lookS s st h b)
      unfold lookS
      rw [← el]
      exact this
    refine ⟨_, rfl, ⟨_, rfl, _, rfl, ?_⟩⟩
    refine ⟨_, rfl, ⟨rfl, rfl, Br.tt ?_⟩⟩
    refine ⟨_, rfl, ⟨_, rfl, ⟨_, d.hn, rfl, _, rfl, ⟨_, d.ho, ?_⟩⟩⟩⟩
    refine mem_ints ?_
    refine Br.of (!(pget st.puts b).isSome) (by rw [pget_isSome]) ?_
    cases e : (pget st.puts b).isSome with
    | true => exact Br.ff (tail S st.looked d (by rw [e]; rfl))
    | false =>
      refine ⟨_, rfl, ⟨_, rfl, ⟨_, d.hn, rfl, _, rfl, ⟨_, d.hl, ?_⟩⟩⟩⟩
      refine mem_ints ?_
      refine Br.of (!(pget st.looked b).isSome) (by rw [pget_isSome]) ?_
      cases e2 : (pget st.looked b).isSome with
      | true =>
        refine tail S st.looked d ?_
        rw [e]
        have : pput st.looked b true = st.looked := by
          unfold pput
          rw [e2]
          refine (List.map_congr_left fun p hp => ?_).trans (List.map_id _)
          show (if p.1 = b then (p.1, true) else p) = p
          split
          · rw [← ok.lt p hp]
          · rfl
        simp [this]
      | false =>
        refine ⟨_, rfl, ⟨_, d.hn, rfl, _, rfl, ⟨_, _, rfl, d.hl, ⟨_, rfl, ⟨_, d.hl, ⟨small6 ok.lk ok.lr (by omega), ⟨_, rfl, ?_⟩⟩⟩⟩⟩⟩⟩
        have ek : keysD st.looked ++ [D.int b] = keysD (pput st.looked b true) := by rw [keysD_put, e2]; rfl
        rw [ek]
        exact tail _ _ (d.setL _) (by rw [e]; rfl)
  | put b h =>
    unfold okDeed at hd
    obtain ⟨h0, h4, b0, b1⟩ := hd
    refine ⟨_, rfl, ⟨_, rfl, _, rfl, ?_⟩⟩
    refine ⟨_, rfl, ⟨rfl, rfl, Br.ff ?_⟩⟩
    refine ⟨_, rfl, ⟨rfl, rfl, Br.tt ?_⟩⟩
    refine ⟨_, rfl, ⟨_, d.hn, rfl, _, rfl, ⟨_, rfl, ⟨_, d.hh, _, hh h h0 h4, ?_⟩⟩⟩⟩
    refine ⟨_, rfl, ⟨_, d.hn, rfl, _, rfl, ⟨_, rfl, ⟨_, _, _, rfl, d.hs, rfl, ?_⟩⟩⟩⟩
    refine seti_lst b0 (by rw [List.length_map, nowS_len]; exact b1) ⟨_, rfl, ?_⟩
    rw [set_ints, nowS_put b0 b1]
    have q1 : su S sa (.lst ((nowS s (pput st.puts b (iget st.held h))).map .int)) na = some (.dic (nowD sa oa ha la)) := by rw [su_ne (ne_of d.hn d.hs (by simp))]; exact d.hn
    have q2 : su S sa (.lst ((nowS s (pput st.puts b (iget st.held h))).map .int)) oa = some (.lst (keysD st.puts)) := by rw [su_ne d.d1.symm]; exact d.ho
    refine ⟨_, rfl, ⟨_, rfl, ⟨_, q1, rfl, _, rfl, ⟨_, q2, ?_⟩⟩⟩⟩
    refine mem_ints ?_
    refine Br.of (!(pget st.puts b).isSome) (by rw [pget_isSome]) ?_
    have ek := keysD_put st.puts b (iget st.held h)
    cases e : (pget st.puts b).isSome with
    | true =>
      rw [e] at ek
      exact q _ (d.setS _ ek)
    | false =>
      rw [e] at ek
      refine ⟨_, rfl, ⟨_, q1, rfl, _, rfl, ⟨_, _, rfl, q2, ⟨_, rfl, ⟨_, q2, ⟨small6 ok.pk ok.pr (by omega), ⟨_, rfl, ?_⟩⟩⟩⟩⟩⟩⟩
      have ek : keysD st.puts ++ [D.int b] = keysD (pput st.puts b (iget st.held h)) := ek.symm
      rw [ek]
      exact q _ (d.setSO _)
  | set h x =>
    unfold okDeed at hd
    obtain ⟨h0, h4, b0, b1⟩ := hd
    refine ⟨_, rfl, ⟨_, rfl, _, rfl, ?_⟩⟩
    refine ⟨_, rfl, ⟨rfl, rfl, Br.ff ?_⟩⟩
    refine ⟨_, rfl, ⟨rfl, rfl, Br.ff ?_⟩⟩
    refine ⟨_, rfl, ⟨rfl, rfl, Br.tt ?_⟩⟩
    refine ⟨_, rfl, ⟨_, rfl, ⟨_, d.hn, rfl, _, rfl, ⟨_, rfl, ⟨_, _, _, rfl, d.hh, rfl, ?_⟩⟩⟩⟩⟩
    refine seti_lst h0 (by rw [List.length_map, ok.h4]; omega) ⟨_, rfl, ?_⟩
    rw [set_ints]
    exact q _ (d.setH _)
  | plus g h =>
    unfold okDeed at hd
    obtain ⟨h0, h4, b0, b1⟩ := hd
    refine ⟨_, rfl, ⟨_, rfl, _, rfl, ?_⟩⟩
    refine ⟨_, rfl, ⟨rfl, rfl, Br.ff ?_⟩⟩
    refine ⟨_, rfl, ⟨rfl, rfl, Br.ff ?_⟩⟩
    refine ⟨_, rfl, ⟨rfl, rfl, Br.ff ?_⟩⟩
    refine ⟨_, rfl, ⟨_, d.hn, rfl, _, rfl, ⟨_, rfl, ⟨_, d.hh, _, hh g h0 h4, ?_⟩⟩⟩⟩
    refine ⟨_, rfl, ⟨_, d.hn, rfl, _, rfl, ⟨_, rfl, ⟨_, d.hh, _, hh h b0 b1, ?_⟩⟩⟩⟩
    refine ⟨_, rfl, ⟨_, rfl, ⟨w0, ?_⟩⟩⟩
    refine ⟨_, rfl, ⟨_, d.hn, rfl, _, rfl, ⟨_, rfl, ⟨_, _, _, rfl, d.hh, rfl, ?_⟩⟩⟩⟩
    refine seti_lst h0 (by rw [List.length_map, ok.h4]; omega) ⟨_, rfl, ?_⟩
    rw [set_ints]
    exact q _ (d.setH _)
  | _ => cases hp
end
end LW

/-! A8: the law's own doing: waits, alone. -/
namespace LW
open PySem L2 PySem.Spec PyProof.Rows DL
section
variable {T : Tbl} {na la : Addr} {a w nw : Int} {s : List Int}
abbrev LWaitsOk (T : Tbl) (na la : Addr) (a w nw : Int) (s : List Int) (m t : Nat) : Prop := ∀ (ds : List Deed) (F S : Hs) (sa oa ha : Addr) (st : St) (Q : VK2), deps ds ≤ t → okDeeds s.length nw ds → LwAt F S na sa oa ha la s st → OkSt s.length st →
  (∀ S' sa' oa' ha', LwAt F S' na sa' oa' ha' la s (gos w s ds 0 st).2 → Q (.d (.bl (gos w s ds 0 st).1)) S') → cal T m 45 [.d (.tup [.int a, .int w]), .d (.tup (encs ds)), .d (.ref na)] S Q
theorem law_waits_ok (h44 : T.fn 44 = some f_law_plain) (hT : T.fn 45 = some f_law_waits) (w0 : 0 < w) (hs : s.length ≤ 6) : ∀ (t n : Nat), LWaitsOk T na la a w nw s (n + 2 + t) t := by
  intro t
  induction t using Nat.strongRecOn with
  | _ t ih =>
  intro n ds F S sa oa ha st Q hdep hok d ok q
  rw [show n + 2 + t = (n + 1 + t) + 1 by omega]
  refine ⟨_, hT, rfl, rfl, ?_⟩
  have hp : ∀ (dd : Deed) (S' : Hs) (sa' oa' ha' : Addr) (st' : St) (Q : VK2), okDeed s.length nw dd → isPl dd = true → LwAt F S' na sa' oa' ha' la s st' → OkSt s.length st' → (∀ S'', LwAt F S'' na sa' oa' ha' la s (plainS w s dd st') → Q (.d .non) S'') →
      cal T (n + 1 + t) 44 [.d (.tup [.int a, .int w]), .d (encD dd), .d (.ref na)] S' Q := fun dd S' sa' oa' ha' st' Q h1 h2 d' ok' q' =>
    lev (show n + t + 1 = n + 1 + t by omega) (law_plain_ok h44 (n + t) h1 h2 w0 d' hs ok' q')
  have hv : 1 ≤ t → LWaitsOk T na la a w nw s (n + 1 + t) (t - 1) := fun h => by
    have := ih (t - 1) (by omega) n
    rw [show n + 2 + (t - 1) = n + 1 + t by omega] at this
    exact this
  unfold LWaitsOk at hv
  generalize cal T (n + 1 + t) = c at hp hv ⊢
  refine ⟨_, rfl, ?_⟩
  refine forL_encs (fun rest σ S' => ∃ (out : Nat) (s4 s5 s6 : Option Vx) (st' : St) (sa' oa' ha' : Addr), σ = [some (.d (.tup [.int a, .int w])), some (.d (.tup (encs ds))), some (.d (.ref na)), some (.d (.int out)), s4, s5, s6] ∧ LwAt F S' na sa' oa' ha' la s st' ∧ OkSt s.length st' ∧
    gos w s ds 0 st = gos w s rest out st') (fun _ _ _ _ => trivial) ?_ ?_ _ _ ⟨0, _, _, _, st, sa, oa, ha, rfl, d, ok, rfl⟩
  · rintro σ S' ⟨out, s4, s5, s6, st', sa', oa', ha', rfl, d', ok', e⟩
    have e' : gos w s [] out st' = (false, st') := by rw [gos]
    rw [e'] at e
    rw [e] at q
    exact q _ _ _ _ d'
  rintro dd rest hm - kk σ S' hk ⟨out, s4, s5, s6, st', sa', oa', ha', rfl, d', ok', e⟩
  have hdd := okDeeds_mem hok hm
  cases out with
  | succ out =>
    have e' : gos w s (dd :: rest) (out + 1) st' = gos w s rest out st' := by cases dd <;> rw [gos]
    rw [e'] at e
    refine ⟨_, rfl, Br.dec (fun _ => ?_) (fun h => absurd (show (0 : Int) < ((out + 1 : Nat) : Int) by omega) h)⟩
    refine ⟨_, rfl, ?_⟩
    have ee : (((out + 1 : Nat) : Int) - 1) = (out : Int) := by omega
    show kk [_, _, _, some (.d (.int (((out + 1 : Nat) : Int) - 1))), _, _, _] _
    rw [ee]
    exact hk _ _ ⟨out, _, _, _, st', sa', oa', ha', rfl, d', ok', e⟩
  | zero =>
  refine ⟨_, rfl, Br.ff ?_⟩
  have nxt0 : ∀ (st'' : St) (S'' : Hs) (sa'' oa'' ha'' : Addr) (s4 s5 s6 : Option Vx), LwAt F S'' na sa'' oa'' ha'' la s st'' → OkSt s.length st'' → gos w s ds 0 st = gos w s rest 0 st'' →
      kk [some (.d (.tup [.int a, .int w])), some (.d (.tup (encs ds))), some (.d (.ref na)), some (.d (.int ((0 : Nat) : Int))), s4, s5, s6] S'' := fun st'' S'' sa'' oa'' ha'' s4 s5 s6 d'' ok'' e'' => hk _ _ ⟨0, _, _, _, st'', sa'', oa'', ha'', rfl, d'', ok'', e''⟩
  have pl : isPl dd = true → gos w s (dd :: rest) 0 st' = gos w s rest 0 (plainS w s dd st') := fun z => by cases dd <;> first | (cases z; done) | rw [gos]
  have plain : isPl dd = true → wpS T c (.expr (.call 44 (.cons (.v 0) (.cons (.v 4) (.cons (.v 2) .nil))))) [some (.d (.tup [.int a, .int w])), some (.d (.tup (encs ds))), some (.d (.ref na)), some (.d (.int ((0 : Nat) : Int))), some (.d (encD dd)), s5, s6] S' kk Q (fun σ' S' => wpS T c (.ret (.b false)) σ' S' (fun _ S' => Q (.d .non) S') Q (fun _ _ => False) (fun _ _ => False)) kk := fun z =>
    ⟨_, rfl, ⟨_, rfl, ⟨_, rfl, hp _ S' sa' oa' ha' st' _ hdd z d' ok' fun S'' d'' => nxt0 _ S'' sa' oa' ha' _ _ _ d'' (ok'.plain s hdd) (e.trans (pl z))⟩⟩⟩
  cases dd with
  | wait =>
    refine ⟨_, rfl, ⟨_, rfl, rfl, rfl, Br.tt ?_⟩⟩
    have e' : gos w s (.wait :: rest) 0 st' = (true, st') := by rw [gos]
    rw [e'] at e
    rw [e] at q
    exact q _ _ _ _ d'
  | leap h x =>
    refine ⟨_, rfl, ⟨_, rfl, rfl, rfl, Br.ff ?_⟩⟩
    refine ⟨_, rfl, ⟨_, rfl, rfl, rfl, Br.tt ?_⟩⟩
    unfold okDeed at hdd
    obtain ⟨g0, g4, x1, x12⟩ := hdd
    have e' : gos w s (.leap h x :: rest) 0 st' = gos w s rest (if iget st'.held h = 0 then x.toNat else 0) st' := by rw [gos]
    rw [e'] at e
    refine ⟨_, rfl, ⟨_, rfl, ⟨_, rfl, ⟨_, d'.hn, rfl, _, rfl, ⟨_, rfl, ⟨_, rfl, ⟨_, d'.hh, _, getI_ints g0 (by rw [ok'.h4]; omega), ?_⟩⟩⟩⟩⟩⟩⟩
    refine ⟨rfl, rfl, ?_⟩
    by_cases hz : iget st'.held h = 0
    · rw [if_pos hz] at e
      have hb : eqB (.int (iget st'.held h)) (.int 0) = true := decide_eq_true hz
      show mulOk x (if eqB (.int (iget st'.held h)) (.int 0) = true then 1 else 0) ∧ kk [_, _, _, some (.d (.int (x * (if eqB (.int (iget st'.held h)) (.int 0) = true then 1 else 0)))), _, _, _] _
      rw [hb]
      refine ⟨.inl (.inr (by decide)), ?_⟩
      have ex : x * (if true = true then 1 else 0) = (x.toNat : Int) := by simp; omega
      rw [ex]
      exact hk _ _ ⟨x.toNat, _, _, _, st', sa', oa', ha', rfl, d', ok', e⟩
    · rw [if_neg hz] at e
      have hb : eqB (.int (iget st'.held h)) (.int 0) = false := decide_eq_false hz
      show mulOk x (if eqB (.int (iget st'.held h)) (.int 0) = true then 1 else 0) ∧ kk [_, _, _, some (.d (.int (x * (if eqB (.int (iget st'.held h)) (.int 0) = true then 1 else 0)))), _, _, _] _
      rw [hb]
      refine ⟨.inl (.inr (by decide)), ?_⟩
      have ex : x * (if false = true then 1 else 0) = ((0 : Nat) : Int) := by simp
      rw [ex]
      exact hk _ _ ⟨0, _, _, _, st', sa', oa', ha', rfl, d', ok', e⟩
  | look h b => exact ⟨_, rfl, ⟨_, rfl, rfl, rfl, Br.ff ⟨_, rfl, ⟨_, rfl, rfl, rfl, Br.ff ⟨_, rfl, ⟨_, rfl, rfl, rfl, Br.tt (plain rfl)⟩⟩⟩⟩⟩⟩
  | put b h => exact ⟨_, rfl, ⟨_, rfl, rfl, rfl, Br.ff ⟨_, rfl, ⟨_, rfl, rfl, rfl, Br.ff ⟨_, rfl, ⟨_, rfl, rfl, rfl, Br.tt (plain rfl)⟩⟩⟩⟩⟩⟩
  | set h x => exact ⟨_, rfl, ⟨_, rfl, rfl, rfl, Br.ff ⟨_, rfl, ⟨_, rfl, rfl, rfl, Br.ff ⟨_, rfl, ⟨_, rfl, rfl, rfl, Br.tt (plain rfl)⟩⟩⟩⟩⟩⟩
  | plus g h => exact ⟨_, rfl, ⟨_, rfl, rfl, rfl, Br.ff ⟨_, rfl, ⟨_, rfl, rfl, rfl, Br.ff ⟨_, rfl, ⟨_, rfl, rfl, rfl, Br.tt (plain rfl)⟩⟩⟩⟩⟩⟩
  | try_ a' b' =>
    have hdep2 := Nat.le_trans (deps_mem hm) hdep
    unfold depD at hdep2
    unfold okDeed at hdd
    have W := hv (by omega)
    refine ⟨_, rfl, ⟨_, rfl, rfl, rfl, Br.ff ⟨_, rfl, ⟨_, rfl, rfl, rfl, Br.ff ⟨_, rfl, ⟨_, rfl, rfl, rfl, Br.ff ?_⟩⟩⟩⟩⟩⟩
    -- the copies
    refine ⟨_, rfl, ⟨_, d'.hn, rfl, _, rfl, ⟨_, d'.hs, _, rfl, ?_⟩⟩⟩
    intro sc hsc
    have k1 : ∀ {b : Addr} {x : O}, S' b = some x → su S' sc (.lst ((nowS s st'.puts).map .int)) b = some x := fun {b x} h => by rw [su_ne (ne_none h hsc)]; exact h
    refine ⟨_, rfl, ⟨_, k1 d'.hn, rfl, _, rfl, ⟨_, k1 d'.ho, _, rfl, ?_⟩⟩⟩
    intro oc hoc
    have hoc0 := su_none hoc
    have k2 : ∀ {b : Addr} {x : O}, S' b = some x → su (su S' sc (.lst ((nowS s st'.puts).map .int))) oc (.lst (keysD st'.puts)) b = some x := fun {b x} h => by rw [su_ne (ne_none (k1 h) hoc)]; exact k1 h
    refine ⟨_, rfl, ⟨_, k2 d'.hn, rfl, _, rfl, ⟨_, k2 d'.hh, _, rfl, ?_⟩⟩⟩
    intro hc' hhc
    have hhc0 := su_none (su_none hhc)
    refine ⟨_, rfl, (show 3 ≤ 15 by decide), ?_⟩
    refine ⟨_, rfl, fun kd hkd => ?_⟩
    have hkd0 := su_none (su_none (su_none hkd))
    have n1 : sc ≠ oc := fun z => by subst z; rw [su_same] at hoc; cases hoc
    have n2 : sc ≠ hc' := fun z => by subst z; rw [su_ne n1, su_same] at hhc; cases hhc
    have n3 : oc ≠ hc' := fun z => by subst z; rw [su_same] at hhc; cases hhc
    have n4 : sc ≠ kd := fun z => by subst z; rw [su_ne n2, su_ne n1, su_same] at hkd; cases hkd
    have n5 : oc ≠ kd := fun z => by subst z; rw [su_ne n3, su_same] at hkd; cases hkd
    have n6 : hc' ≠ kd := fun z => by subst z; rw [su_same] at hkd; cases hkd
    -- the frame with the copies
    let more : Hs → Hs := fun G => su (su (su (su G sc (.lst ((nowS s st'.puts).map .int))) oc (.lst (keysD st'.puts))) hc' (.lst (st'.held.map .int))) kd (.dic [(kState, .ref sc), (kOwn, .ref oc), (kHands, .ref hc')])
    have mne : ∀ {G : Hs} {b : Addr}, b ≠ sc → b ≠ oc → b ≠ hc' → b ≠ kd → more G b = G b := fun {G b} h1 h2 h3 h4 => by
      show su (su (su (su G sc _) oc _) hc' _) kd _ b = _
      rw [su_ne h4, su_ne h3, su_ne h2, su_ne h1]
    have mS : ∀ {b : Addr} {x : O}, S' b = some x → ∀ G : Hs, more G b = G b := fun {b x} h G => mne (ne_none h hsc) (ne_none h hoc0) (ne_none h hhc0) (ne_none h hkd0)
    have fsc : F sc = none := d'.fr.none hsc
    have foc : F oc = none := d'.fr.none hoc0
    have fhc : F hc' = none := d'.fr.none hhc0
    have fkd : F kd = none := d'.fr.none hkd0
    have mext : ∀ {S2 : Hs}, Ext (more F) S2 → Ext F S2 := fun {S2} h b x e => h b x (by rw [mne (ne_none e fsc) (ne_none e foc) (ne_none e fhc) (ne_none e fkd)]; exact e)
    have d1 : LwAt (more F) (more S') na sa' oa' ha' la s st' := by
      refine ⟨(mS d'.hn _).trans d'.hn, (mS d'.hs _).trans d'.hs, (mS d'.ho _).trans d'.ho, (mS d'.hh _).trans d'.hh, (mS d'.hl _).trans d'.hl, d'.d1, d'.d2, d'.d3, d'.d4, d'.d5, d'.d6, fun b x e => ?_, (mS d'.hn _).trans d'.fn, (mS d'.hs _).trans d'.fs, (mS d'.ho _).trans d'.fo, (mS d'.hh _).trans d'.fh, (mS d'.hl _).trans d'.fl⟩
      have e : su (su (su (su F sc (.lst ((nowS s st'.puts).map .int))) oc (.lst (keysD st'.puts))) hc' (.lst (st'.held.map .int))) kd (.dic [(kState, .ref sc), (kOwn, .ref oc), (kHands, .ref hc')]) b = some x := e
      show su (su (su (su S' sc (.lst ((nowS s st'.puts).map .int))) oc (.lst (keysD st'.puts))) hc' (.lst (st'.held.map .int))) kd (.dic [(kState, .ref sc), (kOwn, .ref oc), (kHands, .ref hc')]) b = some x
      unfold su at e ⊢
      split
      · rename_i z; rw [if_pos z] at e; exact e
      · rename_i z; rw [if_neg z] at e
        split
        · rename_i z; rw [if_pos z] at e; exact e
        · rename_i z; rw [if_neg z] at e
          split
          · rename_i z; rw [if_pos z] at e; exact e
          · rename_i z; rw [if_neg z] at e
            split
            · rename_i z; rw [if_pos z] at e; exact e
            · rename_i z; rw [if_neg z] at e; exact d'.fr _ _ e
    refine ⟨_, rfl, ⟨_, rfl, ⟨_, rfl, ⟨_, rfl, ?_⟩⟩⟩⟩
    refine W a' (more F) (more S') sa' oa' ha' st' _ (by omega) hdd.1.1 d1 ok' fun S2 sa2 oa2 ha2 d2 => ?_
    have e0 := e
    rw [gos_try] at e0
    have oka := gos_ok (w := w) s a' 0 st' hdd.1.1 ok'
    cases ea : (gos w s a' 0 st').1 with
    | false =>
      have ev : vain w s a' b' st' = gos w s a' 0 st' := by unfold vain; rw [ea]; simp
      rw [ev, ea] at e0
      refine Br.ff ?_
      refine nxt0 (gos w s a' 0 st').2 S2 sa2 oa2 ha2 _ _ _ ⟨d2.hn, d2.hs, d2.ho, d2.hh, d2.hl, d2.d1, d2.d2, d2.d3, d2.d4, d2.d5, d2.d6, mext d2.fr, d'.fn, ?_, ?_, ?_, d'.fl⟩ oka (by simpa using e0)
      · exact su_none (su_none (su_none (su_none d2.fs)))
      · exact su_none (su_none (su_none (su_none d2.fo)))
      · exact su_none (su_none (su_none (su_none d2.fh)))
    | true =>
      have ev : vain w s a' b' st' = gos w s b' 0 ⟨st'.puts, st'.held, (gos w s a' 0 st').2.looked⟩ := by unfold vain; rw [ea]; simp
      rw [ev] at e0
      refine Br.tt ?_
      have q1 : S2 kd = some (.dic [(kState, .ref sc), (kOwn, .ref oc), (kHands, .ref hc')]) := d2.fr _ _ su_same
      have q2 : S2 sc = some (.lst ((nowS s st'.puts).map .int)) := d2.fr _ _ (by show su (su (su (su F sc _) oc _) hc' _) kd _ sc = _; rw [su_ne n4, su_ne n2, su_ne n1, su_same])
      have q3 : S2 oc = some (.lst (keysD st'.puts)) := d2.fr _ _ (by show su (su (su (su F sc _) oc _) hc' _) kd _ oc = _; rw [su_ne n5, su_ne n3, su_same])
      have q4 : S2 hc' = some (.lst (st'.held.map .int)) := d2.fr _ _ (by show su (su (su (su F sc _) oc _) hc' _) kd _ hc' = _; rw [su_ne n6, su_same])
      refine ⟨kd, _, q1, fun hz => ?_⟩
      have nk : na ≠ kd := ne_none d'.hn hkd0
      refine ⟨_, rfl, ⟨kd, _, hz, rfl, su_same, ?_⟩⟩
      have qn : su S2 kd (.fdc [(kState, .ref sc), (kOwn, .ref oc), (kHands, .ref hc')] hz) na = some (.dic (nowD sa2 oa2 ha2 la)) := by rw [su_ne nk]; exact d2.hn
      generalize hS3 : su S2 kd (.fdc [(kState, .ref sc), (kOwn, .ref oc), (kHands, .ref hc')] hz) = S3 at qn ⊢
      have qk : S3 kd = some (.fdc [(kState, .ref sc), (kOwn, .ref oc), (kHands, .ref hc')] hz) := by rw [← hS3]; exact su_same
      refine ⟨qk, ⟨_, rfl, ⟨_, rfl, ⟨_, qk, rfl, _, rfl, ⟨_, rfl, ⟨_, rfl, ⟨_, _, _, rfl, qn, rfl, ⟨rfl, (show 4 < sizeLine by decide), ⟨_, rfl, ?_⟩⟩⟩⟩⟩⟩⟩⟩⟩
      have qk1 : ∀ x, su S3 na x kd = some (.fdc [(kState, .ref sc), (kOwn, .ref oc), (kHands, .ref hc')] hz) := fun x => by rw [su_ne nk.symm]; exact qk
      refine ⟨qk1 _, ⟨_, rfl, ⟨_, rfl, ⟨_, qk1 _, rfl, _, rfl, ⟨_, rfl, ⟨_, rfl, ⟨_, _, _, rfl, su_same, rfl, ⟨rfl, (show 4 < sizeLine by decide), ⟨_, rfl, ?_⟩⟩⟩⟩⟩⟩⟩⟩⟩
      rw [su_su]
      refine ⟨qk1 _, ⟨_, rfl, ⟨_, rfl, ⟨_, qk1 _, rfl, _, rfl, ⟨_, rfl, ⟨_, rfl, ⟨_, _, _, rfl, su_same, rfl, ⟨rfl, (show 4 < sizeLine by decide), ⟨_, rfl, ?_⟩⟩⟩⟩⟩⟩⟩⟩⟩
      rw [su_su]
      refine ⟨qk1 _, qk1 _, ?_⟩
      show DL.wpS T c _ _ (su (su S3 na (.dic (nowD sc oc hc' la))) kd (.dic [(kState, .ref sc), (kOwn, .ref oc), (kHands, .ref hc')])) _ _ _ _
      have e3 : su (su S3 na (.dic (nowD sc oc hc' la))) kd (.dic [(kState, .ref sc), (kOwn, .ref oc), (kHands, .ref hc')]) = su S2 na (.dic (nowD sc oc hc' la)) := by
        rw [← hS3]
        funext b
        unfold su
        by_cases b1 : b = kd
        · subst b1; rw [if_pos rfl, if_neg nk.symm]; exact q1.symm
        · rw [if_neg b1, if_neg b1]
      rw [e3]
      have d3 : LwAt F (su S2 na (.dic (nowD sc oc hc' la))) na sc oc hc' la s ⟨st'.puts, st'.held, (gos w s a' 0 st').2.looked⟩ := by
        refine ⟨su_same, ?_, ?_, ?_, ?_, n1, n2, (ne_none d'.hl hsc).symm, n3, (ne_none d'.hl hoc0).symm, (ne_none d'.hl hhc0).symm, (mext d2.fr).new d'.fn, d'.fn, fsc, foc, fhc, d'.fl⟩
        · rw [su_ne (ne_of q2 d2.hn (by simp))]; exact q2
        · rw [su_ne (ne_of q3 d2.hn (by simp))]; exact q3
        · rw [su_ne (ne_of q4 d2.hn (by simp))]; exact q4
        · rw [su_ne (ne_of d2.hl d2.hn (by simp))]; exact d2.hl
      have ok3 : OkSt s.length ⟨st'.puts, st'.held, (gos w s a' 0 st').2.looked⟩ := ⟨ok'.h4, ok'.pk, ok'.pr, oka.lk, oka.lr, oka.lt⟩
      refine ⟨_, rfl, ⟨_, rfl, ⟨_, rfl, ⟨_, rfl, ?_⟩⟩⟩⟩
      refine W b' F _ sc oc hc' _ _ (by omega) hdd.2.1 d3 ok3 fun S4 sa4 oa4 ha4 d4 => ?_
      cases eb : (gos w s b' 0 ⟨st'.puts, st'.held, (gos w s a' 0 st').2.looked⟩).1 with
      | true =>
        refine Br.tt ?_
        rw [if_pos eb] at e0
        rw [e0, eb] at q
        exact q _ _ _ _ d4
      | false =>
        refine Br.ff ?_
        rw [if_neg (by rw [eb]; simp)] at e0
        exact nxt0 _ S4 sa4 oa4 ha4 _ _ _ d4 (gos_ok (w := w) s b' 0 _ hdd.2.1 ok3) e0
end
end LW

/-! A9: the law's alone; the same. -/
namespace LW
open PySem L2 PySem.Spec PyProof.Rows DL
theorem nowS_nil (s : List Int) : nowS s [] = s := by
  unfold nowS
  refine List.ext_getElem (by simp) fun i h1 h2 => ?_
  simp only [List.getElem_map, List.getElem_range]
  unfold seen iget
  simp [pget, List.getD, List.getElem?_eq_getElem h2]
section
variable {T : Tbl} {S : Hs} {w : Int} {s : List Int} {Q : VK2}
theorem law_alone_ok (h44 : T.fn 44 = some f_law_plain) (h45 : T.fn 45 = some f_law_waits) (hT : T.fn 46 = some f_law_alone) (n t : Nat) {a nw : Int} {ds : List Deed} (w0 : 0 < w) (hs : s.length ≤ 6) (hdep : deps ds ≤ t) (hok : okDeeds s.length nw ds)
    (q : AlR S w s ds Q) : cal T (n + 3 + t) 46 [.d (.tup [.int a, .int w]), .d (.tup (encs ds)), .d (.tup (s.map .int))] S Q := by
  rw [show n + 3 + t = (n + 2 + t) + 1 by omega]
  refine ⟨_, hT, rfl, rfl, ?_⟩
  have k2 := fun na la => law_waits_ok (na := na) (la := la) (a := a) (nw := nw) (s := s) h44 h45 w0 hs t n
  unfold LWaitsOk at k2
  generalize cal T (n + 2 + t) = c at k2 ⊢
  refine ⟨_, rfl, ⟨_, rfl, fun sa hsa => ?_⟩⟩
  refine ⟨_, rfl, (show 0 ≤ sizeLine by decide), fun oa hoa => ?_⟩
  refine ⟨_, rfl, (show 4 ≤ sizeLine by decide), fun ha hha => ?_⟩
  refine ⟨_, rfl, (show 0 ≤ sizeLine by decide), fun la hla => ?_⟩
  refine ⟨_, rfl, (show 4 ≤ 15 by decide), ?_⟩
  refine ⟨_, rfl, fun na hna => ?_⟩
  have o0 := su_none hoa
  have h0 := su_none (su_none hha)
  have l0 := su_none (su_none (su_none hla))
  have n0 := su_none (su_none (su_none (su_none hna)))
  have d1 : sa ≠ oa := fun z => by subst z; rw [su_same] at hoa; cases hoa
  have d2 : sa ≠ ha := fun z => by subst z; rw [su_ne d1, su_same] at hha; cases hha
  have d4 : oa ≠ ha := fun z => by subst z; rw [su_same] at hha; cases hha
  have d3 : sa ≠ la := fun z => by subst z; rw [su_ne d2, su_ne d1, su_same] at hla; cases hla
  have d5 : oa ≠ la := fun z => by subst z; rw [su_ne d4, su_same] at hla; cases hla
  have d6 : ha ≠ la := fun z => by subst z; rw [su_same] at hla; cases hla
  have d7 : sa ≠ na := fun z => by subst z; rw [su_ne d3, su_ne d2, su_ne d1, su_same] at hna; cases hna
  have d8 : oa ≠ na := fun z => by subst z; rw [su_ne d5, su_ne d4, su_same] at hna; cases hna
  have d9 : ha ≠ na := fun z => by subst z; rw [su_ne d6, su_same] at hna; cases hna
  have d10 : la ≠ na := fun z => by subst z; rw [su_same] at hna; cases hna
  have d : LwAt S (su (su (su (su (su S sa (.lst (s.map .int))) oa (.lst [])) ha (.lst [.int 0, .int 0, .int 0, .int 0])) la (.lst [])) na (.dic (nowD sa oa ha la))) na sa oa ha la s st0 := by
    refine ⟨su_same, ?_, ?_, ?_, ?_, d1, d2, d3, d4, d5, d6, ((((Ext.refl.new hsa).new o0).new h0).new l0).new n0, n0, hsa, o0, h0, l0⟩
    · rw [su_ne d7, su_ne d3, su_ne d2, su_ne d1, su_same]; show some (O.lst (s.map .int)) = some (.lst ((nowS s []).map .int)); rw [nowS_nil]
    · rw [su_ne d8, su_ne d5, su_ne d4, su_same]; rfl
    · rw [su_ne d9, su_ne d6, su_same]; rfl
    · rw [su_ne d10, su_same]; rfl
  refine ⟨_, rfl, ⟨_, rfl, ⟨_, rfl, ?_⟩⟩⟩
  refine k2 na la ds S _ sa oa ha st0 _ hdep hok d (st0_ok _) fun S2 sa' oa' ha' e2 => ?_
  have q2 := q S2 e2.fr
  unfold AlR at q
  cases e : (gos w s ds 0 st0).1 with
  | true =>
    refine Br.tt ?_
    refine ⟨_, rfl, ⟨_, e2.hn, rfl, _, rfl, ⟨_, e2.hl, (gos w s ds 0 st0).2.looked.map Prod.fst, .inl rfl, fun ns p pw => ?_⟩⟩⟩
    intro l hl
    refine ⟨_, rfl, (show 2 ≤ sizeLine by decide), ?_⟩
    have := q (su S2 l (.lst (ns.map .int))) (Ext.new e2.fr (fr_none e2.fr hl))
    rw [if_pos e] at this
    exact this l (fr_none e2.fr hl) (by rw [su_same, srt_eq p pw])
  | false =>
    refine Br.ff ?_
    rw [if_neg (by rw [e]; simp)] at q2
    exact ⟨_, rfl, ⟨_, e2.hn, rfl, _, rfl, ⟨_, e2.hs, _, rfl, ⟨_, rfl, ⟨_, e2.hn, rfl, _, rfl, ⟨_, e2.hh, _, rfl, ⟨_, rfl, (show 3 ≤ sizeLine by decide), q2⟩⟩⟩⟩⟩⟩⟩
end
/-! the same, as data within a heap -/
def All2 {α : Type} (P : α → α → Prop) : List α → List α → Prop
  | [], [] => True
  | x :: xs, y :: ys => P x y ∧ All2 P xs ys
  | _, _ => False
def Sm (S : Hs) : Nat → D → D → Prop
  | _, .non, y => y = .non
  | _, .bl a, y => y = .bl a
  | _, .int a, y => y = .int a
  | _, .str a, y => y = .str a ∧ (a.all fun c => decide (c < 1114112)) = true
  | n + 1, .tup xs, y => ∃ ys, y = .tup ys ∧ xs.length ≤ sizeLine ∧ All2 (Sm S n) xs ys
  | n + 1, .ref a, y => ∃ b xs ys, y = .ref b ∧ S a = some (.lst xs) ∧ S b = some (.lst ys) ∧ xs.length ≤ sizeLine ∧ All2 (Sm S n) xs ys
  | 0, _, _ => False
theorem All2.len {α : Type} {P : α → α → Prop} : ∀ {xs ys : List α}, All2 P xs ys → xs.length = ys.length
  | [], [], _ => rfl
  | x :: xs, y :: ys, h => by simp [All2.len h.2]
  | [], _ :: _, h => h.elim
  | _ :: _, [], h => h.elim
theorem All2.zip {P : D → D → Prop} : ∀ {xs ys : List D}, All2 P xs ys → ∀ z ∈ zipD xs ys, ∃ x y, z = .tup [x, y] ∧ P x y
  | [], [], _, z, h => by cases h
  | x :: xs, y :: ys, a, z, h => by
    rcases List.mem_cons.mp h with rfl | h
    · exact ⟨x, y, rfl, a.1⟩
    · exact All2.zip a.2 z h
  | [], _ :: _, a, _, _ => a.elim
  | _ :: _, [], a, _, _ => a.elim
theorem any_tt (xs : List D) : ((xs.map fun _ => D.bl true).any fun y => eqB y (.bl false)) = false := by
  induction xs with
  | nil => rfl
  | cons x xs ih => rw [List.map_cons, List.any_cons, ih]; rfl
theorem plns_tt (xs : List D) : plns (xs.map fun _ => D.bl true) = true := by
  show pls 60 _ = true
  induction xs with
  | nil => simp [pls]
  | cons x xs ih => simp only [List.map_cons, pls, ih, Bool.and_true]; rfl
theorem zip_len (xs ys : List D) : (zipD xs ys).length ≤ xs.length := by rw [zipD_length]; exact Nat.min_le_left _ _
theorem same_ok {T : Tbl} (hT : T.fn 35 = some f_law_same) : ∀ (n : Nat) (x y : D) (S : Hs) (Q : VK2), Sm S n x y → Q (.d (.bl true)) S → cal T (n + 1) 35 [.d x, .d y] S Q := by
  intro n
  induction n using Nat.strongRecOn with
  | _ n ih =>
  intro x y S Q h w
  cases x with
  | int i =>
    have h : y = .int i := by cases n <;> exact h
    subst h
    refine ⟨_, hT, rfl, rfl, ?_⟩
    refine ⟨_, rfl, ⟨_, rfl, Br.ff ?_⟩⟩
    refine ⟨_, rfl, ⟨_, rfl, Br.ff ?_⟩⟩
    refine ⟨_, rfl, ⟨_, rfl, Br.ff ?_⟩⟩
    refine ⟨_, rfl, ⟨_, rfl, Br.tt ?_⟩⟩
    refine ⟨_, rfl, ⟨_, rfl, Br.tt ?_⟩⟩
    refine ⟨_, rfl, ⟨_, rfl, Br.tt ?_⟩⟩
    refine ⟨_, rfl, ⟨_, rfl, ⟨rfl, rfl, ?_⟩⟩⟩
    show Q (.d (.bl (decide (i = i)))) S
    rw [decide_eq_true rfl]; exact w
  | non =>
    have h : y = .non := by cases n <;> exact h
    subst h
    refine ⟨_, hT, rfl, rfl, ?_⟩
    exact ⟨_, rfl, ⟨_, rfl, Br.tt ⟨_, rfl, ⟨_, rfl, w⟩⟩⟩⟩
  | bl b =>
    have h : y = .bl b := by cases n <;> exact h
    subst h
    refine ⟨_, hT, rfl, rfl, ?_⟩
    refine ⟨_, rfl, ⟨_, rfl, Br.ff ?_⟩⟩
    refine ⟨_, rfl, ⟨_, rfl, Br.tt ?_⟩⟩
    refine ⟨_, rfl, ⟨_, rfl, Br.tt ?_⟩⟩
    refine ⟨_, rfl, ⟨_, rfl, ⟨rfl, rfl, ?_⟩⟩⟩
    show Q (.d (.bl (b == b))) S
    rw [beq_self_eq_true]; exact w
  | str a =>
    have h : y = .str a ∧ (a.all fun c => decide (c < 1114112)) = true := by cases n <;> exact h
    obtain ⟨rfl, ha⟩ := h
    refine ⟨_, hT, rfl, rfl, ?_⟩
    refine ⟨_, rfl, ⟨_, rfl, Br.ff ?_⟩⟩
    refine ⟨_, rfl, ⟨_, rfl, Br.ff ?_⟩⟩
    refine ⟨_, rfl, ⟨_, rfl, Br.tt ?_⟩⟩
    refine ⟨_, rfl, ⟨_, rfl, Br.tt ?_⟩⟩
    refine ⟨_, rfl, ⟨_, rfl, ⟨ha, ha, ?_⟩⟩⟩
    show Q (.d (.bl (decide (a = a)))) S
    rw [decide_eq_true rfl]; exact w
  | tup xs =>
    cases n with
    | zero => exact h.elim
    | succ n =>
    obtain ⟨ys, rfl, hl, ha⟩ := h
    refine ⟨_, hT, rfl, rfl, ?_⟩
    have ih := ih n (Nat.lt_succ_self n)
    generalize cal T (n + 1) = c at ih ⊢
    refine ⟨_, rfl, ⟨_, rfl, Br.ff ?_⟩⟩
    refine ⟨_, rfl, ⟨_, rfl, Br.ff ?_⟩⟩
    refine ⟨_, rfl, ⟨_, rfl, Br.ff ?_⟩⟩
    refine ⟨_, rfl, ⟨_, rfl, Br.ff ?_⟩⟩
    refine ⟨_, rfl, ⟨_, rfl, ⟨_, rfl, ⟨_, rfl, ⟨rfl, rfl, Br.ff ?_⟩⟩⟩⟩⟩
    refine ⟨_, rfl, ⟨_, rfl, ⟨_, rfl, ⟨_, rfl, ⟨rfl, rfl, Br.ff ?_⟩⟩⟩⟩⟩
    refine ⟨_, rfl, ⟨_, rfl, ⟨_, rfl, ⟨_, rfl, ⟨rfl, rfl, Br.of true (decide_eq_true (congrArg Int.ofNat ha.len)) ?_⟩⟩⟩⟩⟩
    refine ⟨_, rfl, ⟨_, rfl, ⟨rfl, trivial, ?_⟩⟩⟩
    refine compL_map (fun _ => .bl true) ⟨trivial, trivial⟩ _ _ ?_ ?_ ?_
    · intro z hz P1 P2 k
      obtain ⟨x, y, rfl, hp⟩ := ha.zip z hz
      refine ⟨_, rfl, Br.tt ?_⟩
      exact ⟨_, rfl, ⟨_, rfl, ih x y S _ hp k⟩⟩
    · exact Nat.le_trans (by rw [List.length_nil, Nat.zero_add]; exact zip_len _ _) hl
    · refine ⟨rfl, plns_tt _, ?_⟩
      show Q (.d (.bl (!((zipD xs ys).map fun _ => D.bl true).any fun y => eqB y (.bl false)))) S
      rw [any_tt]
      exact w
  | ref a =>
    cases n with
    | zero => exact h.elim
    | succ n =>
    obtain ⟨b, xs, ys, rfl, e1, e2, hl, ha⟩ := h
    have t1 : ∀ t : Ty, t.isD (.ref a) S = some (decide (t = .list)) := fun t => by
      show (match S a with | some (.lst _) => some (decide (t = Ty.list)) | some (.dic _) => some (decide (t = Ty.dict)) | _ => none) = _; rw [e1]
    have t2 : ∀ t : Ty, t.isD (.ref b) S = some (decide (t = .list)) := fun t => by
      show (match S b with | some (.lst _) => some (decide (t = Ty.list)) | some (.dic _) => some (decide (t = Ty.dict)) | _ => none) = _; rw [e2]
    refine ⟨_, hT, rfl, rfl, ?_⟩
    have ih := ih n (Nat.lt_succ_self n)
    generalize cal T (n + 1) = c at ih ⊢
    refine ⟨_, rfl, ⟨_, rfl, Br.ff ?_⟩⟩
    refine ⟨_, rfl, ⟨_, t2 _, Br.ff ?_⟩⟩
    refine ⟨_, rfl, ⟨_, t2 _, Br.ff ?_⟩⟩
    refine ⟨_, rfl, ⟨_, t2 _, Br.ff ?_⟩⟩
    refine ⟨_, rfl, ⟨_, t2 _, ⟨_, rfl, ⟨_, t1 _, ⟨rfl, rfl, Br.ff ?_⟩⟩⟩⟩⟩
    refine ⟨_, rfl, ⟨_, t2 _, ⟨_, rfl, ⟨_, t1 _, ⟨rfl, rfl, Br.ff ?_⟩⟩⟩⟩⟩
    refine ⟨_, rfl, ⟨_, e1, _, rfl, ⟨_, rfl, ⟨_, e2, _, rfl, ⟨rfl, rfl, Br.of true (decide_eq_true (congrArg Int.ofNat ha.len)) ?_⟩⟩⟩⟩⟩
    refine ⟨_, rfl, ⟨_, e1, ⟨_, rfl, ⟨_, e2, ⟨rfl, e1, ?_⟩⟩⟩⟩⟩
    refine compL_map (fun _ => .bl true) ⟨e1, e2⟩ _ _ ?_ ?_ ?_
    · intro z hz P1 P2 k
      obtain ⟨x, y, rfl, hp⟩ := ha.zip z hz
      refine ⟨_, rfl, Br.tt ?_⟩
      exact ⟨_, rfl, ⟨_, rfl, ih x y S _ hp k⟩⟩
    · exact Nat.le_trans (by rw [List.length_nil, Nat.zero_add]; exact zip_len _ _) hl
    · refine ⟨rfl, plns_tt _, ?_⟩
      show Q (.d (.bl (!((zipD xs ys).map fun _ => D.bl true).any fun y => eqB y (.bl false)))) S
      rw [any_tt]
      exact w
theorem All2.imp {α : Type} {P P' : α → α → Prop} (h : ∀ x y, P x y → P' x y) : ∀ {xs ys : List α}, All2 P xs ys → All2 P' xs ys
  | [], [], _ => trivial
  | _ :: _, _ :: _, a => ⟨h _ _ a.1, All2.imp h a.2⟩
  | [], _ :: _, a => a.elim
  | _ :: _, [], a => a.elim
theorem Sm.succ {S : Hs} : ∀ {n : Nat} {x y : D}, Sm S n x y → Sm S (n + 1) x y
  | n, .non, y, h => by cases n <;> exact h
  | n, .bl _, y, h => by cases n <;> exact h
  | n, .int _, y, h => by cases n <;> exact h
  | n, .str _, y, h => by cases n <;> exact h
  | n + 1, .tup xs, y, ⟨ys, e, l, a⟩ => ⟨ys, e, l, a.imp fun _ _ => Sm.succ⟩
  | n + 1, .ref _, y, ⟨b, xs, ys, e, e1, e2, l, a⟩ => ⟨b, xs, ys, e, e1, e2, l, a.imp fun _ _ => Sm.succ⟩
  | 0, .tup _, _, h => h.elim
  | 0, .ref _, _, h => h.elim
theorem Sm.le {S : Hs} {n m : Nat} {x y : D} (h : n ≤ m) (s : Sm S n x y) : Sm S m x y := by
  induction m with
  | zero => have : n = 0 := by omega
            subst this; exact s
  | succ m ih =>
    by_cases e : n = m + 1
    · subst e; exact s
    · exact (ih (by omega)).succ
theorem same_ok' {T : Tbl} (hT : T.fn 35 = some f_law_same) (m : Nat) {n : Nat} {x y : D} {S : Hs} {Q : VK2} (h : n ≤ m) (s : Sm S n x y) (w : Q (.d (.bl true)) S) : cal T (m + 1) 35 [.d x, .d y] S Q := same_ok hT m x y S Q (s.le h) w
theorem Sm.ints (S : Hs) (n : Nat) : ∀ (l : List Int), All2 (Sm S n) (l.map D.int) (l.map D.int)
  | [] => trivial
  | x :: l => ⟨by cases n <;> rfl, Sm.ints S n l⟩
end LW

/-! A10: k05. -/
namespace LW
open PySem L2 PySem.Spec PyProof.Rows DL
theorem PenAt.ext {S S' : Hs} {p q : Addr} {ns : List Int} {k r : Int} (h : PenAt S p q ns k r) (e : Ext S S') : PenAt S' p q ns k r := ⟨e _ _ h.hp, e _ _ h.hq, h.ne, h.hk, h.hr⟩
/-- what is told, in a heap -/
def DueIs (S : Hs) (w : Int) (s : List Int) (ds : List Deed) (x : D) : Prop :=
  if (gos w s ds 0 st0).1 = true then ∃ l, x = .tup [sWaits, .ref l] ∧ S l = some (.lst ((srt ((gos w s ds 0 st0).2.looked.map Prod.fst)).map .int))
  else x = .tup [sDone, .tup ((nowS s (gos w s ds 0 st0).2.puts).map .int), .tup ((gos w s ds 0 st0).2.held.map .int)]
theorem DueIs.ext {S S' : Hs} {w : Int} {s : List Int} {ds : List Deed} {x : D} (h : DueIs S w s ds x) (e : Ext S S') : DueIs S' w s ds x := by
  unfold DueIs at h ⊢
  split
  · rename_i z; rw [if_pos z] at h; obtain ⟨l, h1, h2⟩ := h; exact ⟨l, h1, e _ _ h2⟩
  · rename_i z; rw [if_neg z] at h; exact h
theorem AlR.of {S : Hs} {w : Int} {s : List Int} {ds : List Deed} {Q : VK2} (h : ∀ x S', Ext S S' → DueIs S' w s ds x → (∀ k l, x = .tup [k, .ref l] → S l = none) → Q (.d x) S') : AlR S w s ds Q := by
  intro S' e
  split
  · rename_i z
    intro l hl hS
    exact h _ S' e (by unfold DueIs; rw [if_pos z]; exact ⟨l, rfl, hS⟩) fun k l' e' => by cases e'; exact hl
  · rename_i z
    exact h _ S' e (by unfold DueIs; rw [if_neg z]) fun k l' e' => by cases e'
theorem DueIs.same {S : Hs} {w n nw : Int} {s : List Int} {ds : List Deed} {x y : D} (hs : s.length ≤ 6) (ok : okDeeds s.length nw ds) (hx : DueIs S w s ds x) (hy : DueIs S w s ds y) : Sm S 2 x y := by
  have okf := gos_ok (w := w) s ds 0 st0 ok (st0_ok _)
  have hlk : ((gos w s ds 0 st0).2.looked.map Prod.fst).length ≤ 6 := Nat.le_trans (nodup_le s.length _ okf.lk okf.lr) hs
  unfold DueIs at hx hy
  split at hx
  · rename_i z
    rw [if_pos z] at hy
    obtain ⟨l, rfl, h1⟩ := hx
    obtain ⟨m, rfl, h2⟩ := hy
    refine ⟨_, rfl, (show 2 ≤ sizeLine by decide), ⟨⟨rfl, by decide⟩, ⟨⟨m, _, _, rfl, h1, h2, ?_, Sm.ints _ _ _⟩, trivial⟩⟩⟩
    rw [List.length_map, (srt_perm _).length_eq]
    exact Nat.le_trans hlk (by decide)
  · rename_i z
    rw [if_neg z] at hy
    subst hx hy
    refine ⟨_, rfl, (show 3 ≤ sizeLine by decide), ⟨⟨rfl, by decide⟩, ⟨⟨_, rfl, ?_, Sm.ints _ _ _⟩, ⟨⟨_, rfl, ?_, Sm.ints _ _ _⟩, trivial⟩⟩⟩⟩
    · rw [List.length_map, nowS_len]; exact Nat.le_trans hs (by decide)
    · rw [List.length_map, okf.h4]; decide
/-- all that alone and the law's own ask of a table -/
structure AlT (T : Tbl) : Prop where
  E : DoT T
  f37 : T.fn 37 = some f_Doing_init
  f38 : T.fn 38 = some f_Doing_now
  c38 : T.fcls 38 = 1
  hi : T.cini 1 = 37
  hg : T.glob 10 = .d (.int 4)
  f43 : T.fn 43 = some f_alone
structure LwT (T : Tbl) : Prop where
  f44 : T.fn 44 = some f_law_plain
  f45 : T.fn 45 = some f_law_waits
  f46 : T.fn 46 = some f_law_alone
/-- what the laws about dealings draw -/
structure GnT (T : Tbl) : Prop where
  h4 : T.fn 4 = some f_law_pen
  h5 : T.fn 5 = some f_law_take
  h6 : T.fn 6 = some f_law_world
  h7 : T.fn 7 = some f_law_state
  h23 : T.fn 23 = some f_law_size
  h24 : T.fn 24 = some f_law_plain_deed
  h25 : T.fn 25 = some f_law_dealing
theorem law_ok5 {T : Tbl} (A : AlT T) (L : LwT T) (G : GnT T) (h35 : T.fn 35 = some f_law_same) (f : Nat) (hT : T.fn f = some f_law_5)
    (n : Nat) {ns : List Int} : cal T (n + 21) f [.fz (ns.map D.int)] (fun _ => none) fun r _ => r = .d (.bl true) := by
  refine ⟨_, hT, rfl, rfl, ?_⟩
  have c4 := fun Q => pen_ok G.h4 (n + 19) (ns := ns) (S := fun _ => none) (Q := Q)
  have c6 := fun S p q ns k r Q => world_ok G.h5 G.h6 (n + 18) (S := S) (p := p) (q := q) (ns := ns) (k := k) (r := r) (Q := Q)
  have c7 := fun S p q ns k r a b Q => state_ok G.h5 G.h7 (n + 18) (S := S) (p := p) (q := q) (ns := ns) (k := k) (r := r) (a := a) (b := b) (Q := Q)
  have c25 := fun p q ns a b a1 a6 b2 b3 S k r room Q => dealing_ok G.h5 G.h23 G.h24 G.h25 (p := p) (q := q) (ns := ns) (a := a) (b := b) a1 a6 b2 b3 0 (n + 16) S k r room Q
  have c43 := fun S a w nw s ds Q w0 hs hd ho hl q => lev (b := n + 20) (by omega) (alone_ok (S := S) (a := a) (w := w) (nw := nw) (s := s) (ds := ds) (Q := Q) A.E A.f37 A.f38 A.c38 A.hi A.hg A.f43 (n + 16) 0 w0 hs hd ho hl q)
  have c46 := fun S a w nw s ds Q w0 hs hd ho q => lev (b := n + 20) (by omega) (law_alone_ok (S := S) (a := a) (w := w) (nw := nw) (s := s) (ds := ds) (Q := Q) L.f44 L.f45 L.f46 (n + 17) 0 w0 hs hd ho q)
  have c35 : ∀ x y S Q, Sm S 2 x y → Q (.d (.bl true)) S → cal T (n + 20) 35 [.d x, .d y] S Q := fun x y S Q h w => same_ok' h35 (n + 19) (by omega) h w
  generalize cal T (n + 20) = c at c4 c6 c7 c25 c43 c46 c35 ⊢
  refine ⟨_, rfl, c4 _ fun q hq ns => ?_⟩
  refine ⟨_, rfl, fun p hp => ?_⟩
  have hne : q ≠ p := fun e => by subst e; rw [su_same] at hp; cases hp
  have h0 : PenAt (su (su (fun _ => none) q (.lst (ns.map .int))) p (.lst [.ref q, .int 0, .int 0])) p q ns 0 0 := ⟨su_same, by rw [su_ne hne]; exact su_same, hne, by decide, by decide⟩
  generalize su (su (fun _ => none) q (.lst (ns.map .int))) p (.lst [.ref q, .int 0, .int 0]) = S0 at h0 ⊢
  refine ⟨_, rfl, c6 _ _ _ _ _ _ _ h0 fun a b k1 r1 a1 a6 b2 b3 k10 r10 => ?_⟩
  have h1 := h0.up k10 r10
  generalize su S0 p (.lst [.ref q, .int k1, .int r1]) = S1 at h1 ⊢
  refine ⟨_, rfl, by decide, by decide, ?_⟩
  refine forL_inv (fun σ S => ∃ s0 s3 s4 s5 s6 s7 s8 k r, σ = [s0, some (.d (.ref p)), some (.d (.tup [.int a, .int b])), s3, s4, s5, s6, s7, s8] ∧ PenAt S p q ns k r) (fun _ _ _ => trivial) (fun σ S _ => rfl) _ ?_ _ _ ⟨_, _, _, _, _, _, _, _, _, rfl, h1⟩
  rintro x _ kk σ S hk ⟨s0, s3, s4, s5, s6, s7, s8, k, r, rfl, h⟩
  refine ⟨_, rfl, ⟨_, rfl, c25 _ _ _ _ _ a1 a6 b2 b3 _ _ _ _ _ h (by decide) (by decide) fun ds k2 r2 sz ln ok dp k20 r20 => ?_⟩⟩
  have h2 := h.up k20 r20
  generalize su S p (.lst [.ref q, .int k2, .int r2]) = S2 at h2 ⊢
  refine ⟨_, rfl, ⟨_, rfl, c7 _ _ _ _ _ _ _ _ _ h2 a1 a6 b2 b3 fun ss k3 r3 sl sr k30 r30 => ?_⟩⟩
  have h3 := h2.up k30 r30
  generalize su S2 p (.lst [.ref q, .int k3, .int r3]) = S3 at h3 ⊢
  have hsl : (ss.length : Int) = a := by rw [sl]; omega
  have ok' : okDeeds ss.length b ds := by rw [hsl]; exact ok
  have hs6 : ss.length ≤ 6 := by omega
  refine ⟨_, rfl, ⟨_, rfl, ⟨_, rfl, c46 _ _ _ b ss ds _ (by omega) hs6 dp ok' (AlR.of fun due S4 e4 du _ => ?_)⟩⟩⟩
  refine ⟨_, rfl, by decide, by decide, ?_⟩
  refine forL_inv (fun σ S => ∃ s0 s3 s7 s8 k r, σ = [s0, some (.d (.ref p)), some (.d (.tup [.int a, .int b])), s3, some (.d (.tup (encs ds))), some (.d (.tup (ss.map .int))), some (.d due), s7, s8] ∧ PenAt S p q ns k r ∧ DueIs S b ss ds due) (fun _ _ _ => trivial) ?_ _ ?_ _ _ ⟨_, _, _, _, _, _, rfl, h3.ext e4, du⟩
  · rintro σ S ⟨s0, s3, s7, s8, k, r, rfl, h, _⟩
    exact hk _ _ ⟨_, _, _, _, _, _, _, _, _, rfl, h⟩
  rintro x _ kk2 σ S hk2 ⟨s0, s3, s7, s8, k, r, rfl, h, du⟩
  refine ⟨_, rfl, ⟨_, rfl, ⟨_, rfl, c43 _ _ _ b ss ds _ (by omega) hs6 dp ok' (by omega) (AlR.of fun fo S5 e5 df nw => ?_)⟩⟩⟩
  refine ⟨_, rfl, ⟨_, rfl, c35 _ _ _ _ (DueIs.same (n := 0) hs6 ok' df (du.ext e5)) (Br.ff ?_)⟩⟩
  have fin : ∀ S6, Ext S S6 → kk2 [s0, some (.d (.ref p)), some (.d (.tup [.int a, .int b])), s3, some (.d (.tup (encs ds))), some (.d (.tup (ss.map .int))), some (.d due), some (.d x), some (.d fo)] S6 := fun S6 e6 => hk2 _ _ ⟨_, _, _, _, _, _, rfl, h.ext e6, du.ext e6⟩
  have df0 := df
  unfold DueIs at df
  split at df
  · obtain ⟨l, rfl, hl⟩ := df
    have okf := gos_ok (w := b) ss ds 0 st0 ok' (st0_ok _)
    have hlk : ((gos b ss ds 0 st0).2.looked.map Prod.fst).length ≤ 6 := Nat.le_trans (nodup_le ss.length _ okf.lk okf.lr) hs6
    refine ⟨_, rfl, ⟨_, rfl, rfl, rfl, Br.tt ?_⟩⟩
    refine ⟨_, rfl, ⟨_, rfl, ⟨_, _, rfl, hl, ⟨_, hl, ⟨?_, ⟨_, rfl, ?_⟩⟩⟩⟩⟩⟩
    · rw [List.length_map, (srt_perm _).length_eq]
      exact Nat.lt_of_le_of_lt hlk (by decide)
    · exact fin _ (e5.new (nw _ _ rfl))
  · subst df
    refine ⟨_, rfl, ⟨_, rfl, rfl, rfl, Br.ff ?_⟩⟩
    exact fin _ e5
end LW

/-! A9b: what is the same compares as equal, read whole. -/
namespace LW
open PySem L2 PySem.Spec PyProof.Rows DL
mutual
theorem eqB_refl : ∀ (n : Nat) (x : D), pl n x = true → eqB x x = true
  | _, .non, _ => rfl
  | _, .bl b, _ => by show (b == b) = true; simp
  | _, .int i, _ => decide_eq_true rfl
  | _, .str a, _ => decide_eq_true rfl
  | n, .ref a, h => by cases n <;> cases h
  | 0, .tup ds, h => by cases h
  | n + 1, .tup ds, h => eqBs_refl n ds (by simpa [pl] using h)
theorem eqBs_refl : ∀ (n : Nat) (xs : List D), pls n xs = true → eqBs xs xs = true
  | _, [], _ => rfl
  | n, x :: xs, h => by
    simp only [pls, Bool.and_eq_true] at h
    show (eqB x x && eqBs xs xs) = true
    rw [eqB_refl n x h.1, eqBs_refl n xs h.2]; rfl
end
mutual
theorem pl_le : ∀ (n m : Nat) (x : D), n ≤ m → pl n x = true → pl m x = true
  | n, m, .non, _, _ => by cases m <;> rfl
  | n, m, .bl b, _, _ => by cases m <;> rfl
  | n, m, .int i, _, _ => by cases m <;> rfl
  | n, m, .str a, _, h => by cases n <;> cases m <;> exact h
  | n, m, .ref a, _, h => by cases n <;> cases h
  | 0, m, .tup ds, _, h => by cases h
  | n + 1, 0, .tup ds, h, _ => by omega
  | n + 1, m + 1, .tup ds, h, z => by
    have z : pls n ds = true := by simpa [pl] using z
    have := pls_le n m ds (by omega) z
    simpa [pl] using this
theorem pls_le : ∀ (n m : Nat) (xs : List D), n ≤ m → pls n xs = true → pls m xs = true
  | n, m, [], _, _ => by cases m <;> rfl
  | n, m, x :: xs, h, z => by
    simp only [pls, Bool.and_eq_true] at z ⊢
    exact ⟨pl_le n m x h z.1, pls_le n m xs h z.2⟩
end
mutual
theorem res_pl (S : Hs) : ∀ (n : Nat) (d : D), pl n d = true → resP S n d = some (toP d)
  | n, .non, _ => by unfold resP; rfl
  | n, .bl b, _ => by unfold resP; rfl
  | n, .int i, _ => by unfold resP; rfl
  | n, .str s, _ => by unfold resP; rfl
  | n, .ref a, h => by cases n <;> cases h
  | 0, .tup ds, h => by cases h
  | n + 1, .tup ds, h => by
    have h : pls n ds = true := by simpa [pl] using h
    unfold resP
    rw [res_pls S n ds h]; rfl
theorem res_pls (S : Hs) : ∀ (n : Nat) (ds : List D), pls n ds = true → resPs S n ds = some (toPs ds)
  | n, [], _ => by unfold resPs; rfl
  | n, d :: ds, h => by
    simp only [pls, Bool.and_eq_true] at h
    unfold resPs
    rw [res_pl S n d h.1, res_pls S n ds h.2]; rfl
end
theorem one1_i {P : VK2} {x : Vx} {S : Hs} (h : P x S) : one1 P [x] S := h
/-- both read as one p, which equals itself -/
def Eqs (S : Hs) (n : Nat) (x y : D) : Prop := ∃ p, resP S n x = some p ∧ resP S n y = some p ∧ p.canLay0 = true ∧ p.depth ≤ n ∧ PyData.eqv p p = true
def EqsL (S : Hs) (n : Nat) (xs ys : List D) : Prop := ∃ ps, resPs S n xs = some ps ∧ resPs S n ys = some ps ∧ PyData.canLayAll0 ps = true ∧ PyData.depthAll ps ≤ n ∧ PyData.eqvAll ps ps = true
theorem EqsL.nil {S : Hs} {n : Nat} : EqsL S n [] [] := ⟨[], by unfold resPs; rfl, by unfold resPs; rfl, rfl, Nat.zero_le _, rfl⟩
theorem EqsL.cons {S : Hs} {n : Nat} {x y : D} {xs ys : List D} (h : Eqs S n x y) (t : EqsL S n xs ys) : EqsL S n (x :: xs) (y :: ys) := by
  obtain ⟨p, h1, h2, h3, h4, h5⟩ := h
  obtain ⟨ps, t1, t2, t3, t4, t5⟩ := t
  refine ⟨p :: ps, by unfold resPs; rw [h1, t1], by unfold resPs; rw [h2, t2], ?_, ?_, ?_⟩
  · show (p.canLay0 && PyData.canLayAll0 ps) = true
    rw [h3, t3]; rfl
  · show max p.depth (PyData.depthAll ps) ≤ n
    omega
  · show (PyData.eqv p p && PyData.eqvAll ps ps) = true
    rw [h5, t5]; rfl
theorem Eqs.tup {S : Hs} {n : Nat} {xs ys : List D} (h : EqsL S n xs ys) : Eqs S (n + 1) (.tup xs) (.tup ys) := by
  obtain ⟨ps, h1, h2, h3, h4, h5⟩ := h
  refine ⟨.tuple ps, by unfold resP; rw [h1]; rfl, by unfold resP; rw [h2]; rfl, h3, Nat.succ_le_succ h4, h5⟩
theorem Eqs.lst {S : Hs} {n : Nat} {a b : Addr} {xs ys : List D} (e1 : S a = some (.lst xs)) (e2 : S b = some (.lst ys)) (h : EqsL S n xs ys) : Eqs S (n + 1) (.ref a) (.ref b) := by
  obtain ⟨ps, h1, h2, h3, h4, h5⟩ := h
  refine ⟨.list ps, by unfold resP; rw [e1]; simp only []; rw [h1]; rfl, by unfold resP; rw [e2]; simp only []; rw [h2]; rfl, h3, Nat.succ_le_succ h4, h5⟩
theorem Eqs.pln {S : Hs} {n : Nat} {x : D} (h : pl n x = true) (hn : n ≤ 60) : Eqs S n x x := by
  obtain ⟨h1, h2⟩ := pl_lay n x h
  exact ⟨toP x, res_pl S n x h, res_pl S n x h, h1, h2, by rw [← eqB_eqv x x n n h h]; exact eqB_refl n x h⟩
theorem EqsL.plns {S : Hs} {n : Nat} {xs : List D} (h : pls n xs = true) : EqsL S n xs xs := by
  obtain ⟨h1, h2⟩ := pls_lay n xs h
  exact ⟨toPs xs, res_pls S n xs h, res_pls S n xs h, h1, h2, by rw [← eqBs_eqv xs xs n n h h]; exact eqBs_refl n xs h⟩
theorem neh_d {S : Hs} {x y : D} {Q : VK2} (h : Eqs S 50 x y) (q : Q (.d (.bl false)) S) : op2D .neh (.d x) (.d y) S Q := by
  obtain ⟨p, h1, h2, h3, h4, h5⟩ := h
  have hs : SeqAt.shaped p = true := by unfold SeqAt.shaped; rw [h3, decide_eq_true (by omega)]; rfl
  refine ⟨p, p, h1, h2, hs, hs, ?_⟩
  show Q (.d (.bl (!PyData.eqv p p))) S
  rw [h5]; exact q
theorem neh_l {S : Hs} {xs ys : List D} {Q : VK2} (h : EqsL S 49 xs ys) (q : Q (.d (.bl false)) S) : op2D .neh (.bw xs) (.vl ys) S Q := by
  obtain ⟨ps, h1, h2, h3, h4, h5⟩ := h
  have hs : SeqAt.shaped (.list ps) = true := by
    unfold SeqAt.shaped
    have e : (PyData.list ps).canLay0 = true := h3
    have e' : (PyData.list ps).depth = PyData.depthAll ps + 1 := rfl
    rw [e, e', decide_eq_true (by omega)]; rfl
  refine ⟨.list ps, .list ps, (show (resPs S 49 xs).map PyData.list = _ by rw [h1]; rfl), (show (resPs S 49 ys).map PyData.list = _ by rw [h2]; rfl), hs, hs, ?_⟩
  show Q (.d (.bl (!PyData.eqvAll ps ps))) S
  rw [h5]; exact q
end LW

/-! A12: one after another. -/
namespace LW
open PySem L2 PySem.Spec PyProof.Rows DL
/-- a walk over an enumeration -/
theorem forL_enum {α : Type} {tg : Tg} {ok : SK2} {body : SK2 → SK2} {nx : SK2} (f : α → D) {xs : List α} (I : Nat → List α → SK2) (hok : ∀ n l σ S, I n l σ S → ok σ S) (hend : ∀ n σ S, I n [] σ S → nx σ S)
    (step : ∀ n x rest, x ∈ xs → ∀ (k : SK2) σ S, (∀ σ S, I (n + 1) rest σ S → k σ S) → I n (x :: rest) σ S → bindT tg (.tup [.int (n : Int), f x]) σ fun σ' => body k σ' S) : ∀ σ S, I 0 xs σ S → forL tg ok body nx (enumD 0 (xs.map f)) σ S := by
  have key : ∀ (post : List α) n, (∀ x ∈ post, x ∈ xs) → ∀ σ S, I n post σ S → forL tg ok body nx (enumD n (post.map f)) σ S := by
    intro post
    induction post with
    | nil => intro n _ σ S i; exact ⟨hok _ _ _ _ i, hend _ _ _ i⟩
    | cons x post ih => exact fun n h σ S i => ⟨hok _ _ _ _ i, step n x post (h x List.mem_cons_self) _ σ S (fun σ S => ih (n + 1) (fun y hy => h y (List.mem_cons_of_mem _ hy)) σ S) i⟩
  exact key xs 0 fun x h => h
mutual
theorem pl_encD : ∀ (d : Deed), pl (2 * depD d + 1) (encD d) = true
  | .look _ _ => rfl
  | .put _ _ => rfl
  | .set _ _ => rfl
  | .plus _ _ => rfl
  | .leap _ _ => rfl
  | .wait => rfl
  | .try_ a b => by
    have h1 := pls_encs a
    have h2 := pls_encs b
    have e : pl (2 * depD (.try_ a b) + 1) (encD (.try_ a b)) = pls (2 * depD (.try_ a b)) [sTry, .tup (encs a), .tup (encs b)] := rfl
    rw [e]
    have hm : 2 * depD (.try_ a b) = (2 * (max (deps a) (deps b)) + 1) + 1 := by simp [depD]; omega
    rw [hm]
    have k1 : pls (2 * max (deps a) (deps b) + 1) (encs a) = true := pls_le _ _ _ (by omega) h1
    have k2 : pls (2 * max (deps a) (deps b) + 1) (encs b) = true := pls_le _ _ _ (by omega) h2
    show (pl _ sTry && (pl _ (.tup (encs a)) && (pl _ (.tup (encs b)) && true))) = true
    have k3 : pl (2 * max (deps a) (deps b) + 1 + 1) (.tup (encs a)) = true := by simpa [pl] using k1
    have k4 : pl (2 * max (deps a) (deps b) + 1 + 1) (.tup (encs b)) = true := by simpa [pl] using k2
    rw [k3, k4]
    rfl
theorem pls_encs : ∀ (ds : List Deed), pls (2 * deps ds + 1) (encs ds) = true
  | [] => rfl
  | d :: ds => by
    have h1 := pl_encD d
    have h2 := pls_encs ds
    show (pl _ (encD d) && pls _ (encs ds)) = true
    rw [pl_le _ (2 * deps (d :: ds) + 1) _ (by simp [deps]; omega) h1, pls_le _ (2 * deps (d :: ds) + 1) _ (by simp [deps]; omega) h2]
    rfl
end
def runRow (w : Int) (dss : List (List Deed)) : List Int → Nat → List Int → Sum (Nat × List Int) (List Int)
  | [], _, s => .inr s
  | k :: r, n, s =>
    if (gos w s (dss.getD k.toNat []) 0 st0).1 = true then .inl (n, srt ((gos w s (dss.getD k.toNat []) 0 st0).2.looked.map Prod.fst))
    else runRow w dss r (n + 1) (nowS s (gos w s (dss.getD k.toNat []) 0 st0).2.puts)
def RowIs (S : Hs) (r : Sum (Nat × List Int) (List Int)) (x : D) : Prop := match r with
  | .inl (n, L) => ∃ l, x = .tup [sWaits, .int (n : Int), .ref l] ∧ S l = some (.lst (L.map .int))
  | .inr s => x = .tup [sDone, .tup (s.map .int)]
theorem RowIs.ext {S S' : Hs} {r : Sum (Nat × List Int) (List Int)} {x : D} (h : RowIs S r x) (e : Ext S S') : RowIs S' r x := by
  unfold RowIs at h ⊢
  split
  · obtain ⟨l, h1, h2⟩ := h; exact ⟨l, h1, e _ _ h2⟩
  · exact h
def dssD (dss : List (List Deed)) : List D := dss.map fun ds => .tup (encs ds)
/-- dealings that all fit -/
def OkDss (n w : Int) (t : Nat) (dss : List (List Deed)) : Prop := ∀ ds ∈ dss, okDeeds n w ds ∧ deps ds ≤ t ∧ ds.length ≤ 1000
theorem dss_at {dss : List (List Deed)} {k : Int} (h0 : 0 ≤ k) (h1 : k < dss.length) : getI (dssD dss) k = some (.tup (encs (dss.getD k.toNat []))) ∧ dss.getD k.toNat [] ∈ dss := by
  have hn : k.toNat < dss.length := by omega
  have e : dss.getD k.toNat [] = dss[k.toNat] := by simp [List.getD, List.getElem?_eq_getElem hn]
  rw [e]
  refine ⟨?_, List.getElem_mem hn⟩
  exact getI_map (f := fun ds => D.tup (encs ds)) h0 (List.getElem?_eq_getElem hn)
theorem runRow_small {w : Int} {dss : List (List Deed)} {m : Int} {t : Nat} : ∀ (r : List Int) (n : Nat) (s : List Int), s.length ≤ 6 → (∀ k ∈ r, 0 ≤ k ∧ k < dss.length) → OkDss s.length m t dss → match runRow w dss r n s with
    | .inl (_, L) => L.length ≤ 6
    | .inr s' => s'.length ≤ 6
  | [], n, s, hs, _, _ => hs
  | k :: r, n, s, hs, hr, ho => by
    have hk := hr k List.mem_cons_self
    have ok := ho _ (dss_at hk.1 hk.2).2
    unfold runRow
    by_cases e : (gos w s (dss.getD k.toNat []) 0 st0).1 = true
    · rw [if_pos e]
      have okf := gos_ok (w := w) s _ 0 st0 ok.1 (st0_ok _)
      show (srt _).length ≤ 6
      rw [(srt_perm _).length_eq]
      exact Nat.le_trans (nodup_le s.length _ okf.lk okf.lr) hs
    · rw [if_neg e]
      exact runRow_small r (n + 1) _ (by rw [nowS_len]; exact hs) (fun x hx => hr x (List.mem_cons_of_mem _ hx)) (by rw [nowS_len]; exact ho)
theorem RowIs.same {S : Hs} {w : Int} {dss : List (List Deed)} {r : List Int} {n : Nat} {s : List Int} {m : Int} {t : Nat} {x y : D} (hs : s.length ≤ 6) (hr : ∀ k ∈ r, 0 ≤ k ∧ k < dss.length) (ho : OkDss s.length m t dss)
    (hx : RowIs S (runRow w dss r n s) x) (hy : RowIs S (runRow w dss r n s) y) : Sm S 2 x y := by
  have small := runRow_small (w := w) r n s hs hr ho
  unfold RowIs at hx hy
  cases e : runRow w dss r n s with
  | inl p =>
    obtain ⟨n, L⟩ := p
    rw [e] at hx hy small
    obtain ⟨l, rfl, h1⟩ := hx
    obtain ⟨l', rfl, h2⟩ := hy
    exact ⟨_, rfl, (show 3 ≤ sizeLine by decide), ⟨⟨rfl, by decide⟩, ⟨rfl, ⟨⟨l', _, _, rfl, h1, h2, by rw [List.length_map]; exact Nat.le_trans small (by decide), Sm.ints _ _ _⟩, trivial⟩⟩⟩⟩
  | inr s' =>
    rw [e] at hx hy small
    subst hx hy
    exact ⟨_, rfl, (show 2 ≤ sizeLine by decide), ⟨⟨rfl, by decide⟩, ⟨⟨_, rfl, by rw [List.length_map]; exact Nat.le_trans small (by decide), Sm.ints _ _ _⟩, trivial⟩⟩⟩
theorem in_row_ok {T : Tbl} (A : AlT T) (hT : T.fn 54 = some f_in_row) (n t : Nat) {S : Hs} {a w nw : Int} {dss : List (List Deed)} {s : List Int} {r : List Int} {da oa : Addr} {Q : VK2} (w0 : 0 < w) (hs : s.length ≤ 6) (ho : OkDss s.length nw t dss) (hr : ∀ k ∈ r, 0 ≤ k ∧ k < dss.length)
    (hda : S da = some (.lst (dssD dss))) (hoa : S oa = some (.lst (r.map .int)))
    (q : ∀ x S', Ext S S' → RowIs S' (runRow w dss r 0 s) x → (∀ j k l, x = .tup [j, k, .ref l] → S l = none) → Q (.d x) S') : cal T (n + 5 + 2 * t) 54 [.d (.tup [.int a, .int w]), .d (.ref da), .d (.tup (s.map .int)), .d (.ref oa)] S Q := by
  rw [show n + 5 + 2 * t = (n + 4 + 2 * t) + 1 by omega]
  refine ⟨_, hT, rfl, rfl, ?_⟩
  have c43 := fun S a w nw s ds Q w0 hs hd ho hl q => alone_ok (S := S) (a := a) (w := w) (nw := nw) (s := s) (ds := ds) (Q := Q) A.E A.f37 A.f38 A.c38 A.hi A.hg A.f43 n t w0 hs hd ho hl q
  generalize cal T (n + 4 + 2 * t) = c at c43 ⊢
  refine ⟨_, rfl, ⟨_, hoa, ?_⟩⟩
  refine forL_enum D.int (fun m rest σ S' => ∃ (s' : List Int) (s4 s5 s6 : Option Vx), σ = [some (.d (.tup [.int a, .int w])), some (.d (.ref da)), some (.d (.tup (s'.map .int))), some (.d (.ref oa)), s4, s5, s6] ∧ Ext S S' ∧ s'.length = s.length ∧ runRow w dss r 0 s = runRow w dss rest m s')
    (fun _ _ _ S' ⟨_, _, _, _, _, e, _⟩ => e _ _ hoa) ?_ ?_ _ _ ⟨s, _, _, _, rfl, Ext.refl, rfl, rfl⟩
  · rintro m σ S' ⟨s', s4, s5, s6, rfl, e, hl, er⟩
    refine ⟨_, rfl, ⟨_, rfl, (show 2 ≤ sizeLine by decide), q _ _ e ?_ (fun j k l z => by cases z)⟩⟩
    rw [er]
    rfl
  rintro m k rest hk kk σ S' nxt ⟨s', s4, s5, s6, rfl, e, hl, er⟩
  have hk := hr k hk
  obtain ⟨g, hm⟩ := dss_at hk.1 hk.2
  have ok := ho _ hm
  refine ⟨_, rfl, ?_⟩
  refine ⟨_, rfl, ⟨_, rfl, ⟨_, rfl, ⟨_, e _ _ hda, ⟨_, g, ⟨_, rfl, ?_⟩⟩⟩⟩⟩⟩
  refine c43 _ _ _ nw s' _ _ w0 (by omega) ok.2.1 (by rw [hl]; exact ok.1) ok.2.2 (AlR.of fun fo S2 e2 df nw' => ?_)
  have rc : runRow w dss (k :: rest) m s' = if (gos w s' (dss.getD k.toNat []) 0 st0).1 = true then .inl (m, srt ((gos w s' (dss.getD k.toNat []) 0 st0).2.looked.map Prod.fst))
    else runRow w dss rest (m + 1) (nowS s' (gos w s' (dss.getD k.toNat []) 0 st0).2.puts) := rfl
  rw [rc] at er
  unfold DueIs at df
  split at df
  · rename_i z
    rw [if_pos z] at er
    obtain ⟨l, rfl, hl2⟩ := df
    refine ⟨_, rfl, ⟨_, rfl, rfl, rfl, Br.tt ?_⟩⟩
    refine ⟨_, rfl, ⟨_, rfl, ⟨_, rfl, ⟨_, rfl, (show 3 ≤ sizeLine by decide), q _ _ (e.trans e2) ?_ fun j k l' z => ?_⟩⟩⟩⟩
    · rw [er]; exact ⟨l, rfl, hl2⟩
    · cases z
      exact e.none (nw' _ _ rfl)
  · rename_i z
    rw [if_neg z] at er
    subst df
    refine ⟨_, rfl, ⟨_, rfl, rfl, rfl, Br.ff ?_⟩⟩
    refine ⟨_, rfl, ⟨_, rfl, ⟨_, rfl, ?_⟩⟩⟩
    exact nxt _ _ ⟨_, _, _, _, rfl, e.trans e2, by rw [nowS_len]; exact hl, er⟩
end LW

/-! W1: rows of dealings that are done, in plain Lean; dicts of rows. -/
namespace LW
open PySem L2 PySem.Spec PyProof.Rows DL
abbrev Rw := List Int × List Int
def rowD (r : Rw) : D := .tup [.tup (r.1.map .int), .tup (r.2.map .int)]
def stepR (w : Int) (s : List Int) (ds : List Deed) : Option (List Int) := if (gos w s ds 0 st0).1 = true then none else some (nowS s (gos w s ds 0 st0).2.puts)
def nxA (w : Int) (r : Rw) : Nat → List (List Deed) → List (Int × Rw)
  | _, [] => []
  | n, ds :: rest => if (n : Int) ∈ r.1 then nxA w r (n + 1) rest else match stepR w r.2 ds with
    | none => nxA w r (n + 1) rest
    | some s' => ((n : Int), (srt (r.1 ++ [(n : Int)]), s')) :: nxA w r (n + 1) rest
def nxts (w : Int) (dss : List (List Deed)) (r : Rw) : List (Int × Rw) := nxA w r 0 dss
def nextD (p : Int × Rw) : D := .tup [.int p.1, rowD p.2]
theorem mem_nxA {w : Int} {r : Rw} {k : Int} {r' : Rw} : ∀ {l : List (List Deed)} {n : Nat}, (k, r') ∈ nxA w r n l ↔ ∃ (i : Nat) (ds : List Deed), l[i]? = some ds ∧ k = ((n + i : Nat) : Int) ∧ k ∉ r.1 ∧ stepR w r.2 ds = some r'.2 ∧ r'.1 = srt (r.1 ++ [k])
  | [], n => by simp [nxA]
  | ds :: rest, n => by
    have ih := mem_nxA (w := w) (r := r) (k := k) (r' := r') (l := rest) (n := n + 1)
    have tail : (∃ (i : Nat) (e : List Deed), rest[i]? = some e ∧ k = ((n + 1 + i : Nat) : Int) ∧ k ∉ r.1 ∧ stepR w r.2 e = some r'.2 ∧ r'.1 = srt (r.1 ++ [k])) → ∃ (i : Nat) (e : List Deed), (ds :: rest)[i]? = some e ∧ k = ((n + i : Nat) : Int) ∧ k ∉ r.1 ∧ stepR w r.2 e = some r'.2 ∧ r'.1 = srt (r.1 ++ [k]) := by
      rintro ⟨i, e, h1, h2, h3⟩
      exact ⟨i + 1, e, h1, by omega, h3⟩
    unfold nxA
    constructor
    · intro h
      split at h
      · exact tail (ih.mp h)
      · rename_i hn
        split at h
        · exact tail (ih.mp h)
        · rename_i s' hs
          rcases List.mem_cons.mp h with e | h
          · cases e
            exact ⟨0, ds, rfl, rfl, hn, hs, rfl⟩
          · exact tail (ih.mp h)
    · rintro ⟨i, e, h1, h2, h3, h4, h5⟩
      cases i with
      | zero =>
        have h1 : some ds = some e := h1
        cases h1
        have h2 : k = (n : Int) := h2
        subst h2
        rw [if_neg h3, h4]
        exact List.mem_cons.mpr (.inl (by cases r' with | mk a b => simp only [Prod.mk.injEq, true_and]; exact ⟨h5, trivial⟩))
      | succ i =>
        have h6 := ih.mpr ⟨i, e, h1, by omega, h3, h4, h5⟩
        split
        · exact h6
        · split
          · exact h6
          · exact List.mem_cons_of_mem _ h6
theorem mem_nxts {w : Int} {dss : List (List Deed)} {r : Rw} {k : Int} {r' : Rw} : (k, r') ∈ nxts w dss r ↔ ∃ (i : Nat) (ds : List Deed), dss[i]? = some ds ∧ k = (i : Int) ∧ k ∉ r.1 ∧ stepR w r.2 ds = some r'.2 ∧ r'.1 = srt (r.1 ++ [k]) := by
  unfold nxts
  rw [mem_nxA]
  simp
inductive Rch (w : Int) (dss : List (List Deed)) (s0 : List Int) : List Int → Rw → Prop where
  | nil : Rch w dss s0 [] ([], s0)
  | snoc {p : List Int} {r : Rw} {k : Int} {r' : Rw} : Rch w dss s0 p r → (k, r') ∈ nxts w dss r → Rch w dss s0 (p ++ [k]) r'
section
variable {w : Int} {dss : List (List Deed)} {s0 : List Int}
theorem Rch.perm {p : List Int} {r : Rw} (h : Rch w dss s0 p r) : r.1.Perm p ∧ p.Nodup ∧ (∀ k ∈ p, 0 ≤ k ∧ k < dss.length) ∧ r.1 = srt p := by
  induction h with
  | nil => exact ⟨.nil, List.nodup_nil, fun k hk => (by cases hk), (srt_eq (.refl _) List.Pairwise.nil)⟩
  | @snoc p r k r' h hm ih =>
    obtain ⟨i, ds, h1, h2, h3, h4, h5⟩ := mem_nxts.mp hm
    obtain ⟨pp, pn, pr, ps⟩ := ih
    have hk : k ∉ p := fun z => h3 (pp.mem_iff.mpr z)
    have hi : i < dss.length := (List.getElem?_eq_some_iff.mp h1).1
    have q : r'.1.Perm (p ++ [k]) := by rw [h5]; exact (srt_perm _).trans (pp.append (.refl _))
    refine ⟨q, List.nodup_append.mpr ⟨pn, by simp, fun x hx y hy e => by simp at hy; subst hy; subst e; exact hk hx⟩, fun x hx => ?_, ?_⟩
    · rcases List.mem_append.mp hx with hx | hx
      · exact pr x hx
      · simp at hx; omega
    · exact srt_eq q (by rw [h5]; exact srt_pw _)
theorem Rch.one {p : List Int} {r : Rw} (h : Rch w dss s0 p r) : ∀ {q : List Int} {t : Rw}, p = q → Rch w dss s0 q t → r = t := by
  induction h with
  | nil =>
    intro q t e h
    cases h with
    | nil => rfl
    | snoc _ _ => simp at e
  | @snoc p r k r' h hm ih =>
    intro q t e h'
    cases h' with
    | nil => simp at e
    | @snoc p2 r2 k2 t h2 hm2 =>
      obtain ⟨e1, e2⟩ := List.append_inj' e rfl
      have e2 : k = k2 := by simpa using e2
      subst e2
      have er := ih e1 h2
      subst er
      obtain ⟨i, ds, a1, a2, a3, a4, a5⟩ := mem_nxts.mp hm
      obtain ⟨j, es, b1, b2, b3, b4, b5⟩ := mem_nxts.mp hm2
      have : i = j := by omega
      subst this
      rw [a1] at b1; cases b1
      rw [a4] at b4
      have e3 : r'.2 = t.2 := by simpa using b4
      have e4 : r'.1 = t.1 := a5.trans b5.symm
      cases r'; cases t
      simp at e3 e4
      rw [e3, e4]
theorem Rch.size {p : List Int} {r : Rw} (h : Rch w dss s0 p r) : r.1.length = p.length := h.perm.1.length_eq
theorem Rch.slen {p : List Int} {r : Rw} (h : Rch w dss s0 p r) : r.2.length = s0.length := by
  induction h with
  | nil => rfl
  | snoc h hm ih =>
    obtain ⟨i, ds, h1, h2, h3, h4, h5⟩ := mem_nxts.mp hm
    unfold stepR at h4
    split at h4
    · cases h4
    · have : nowS _ _ = _ := Option.some.inj h4
      rw [← this, ← ih]
      unfold nowS
      simp
/-- gone along from the left -/
def runs (w : Int) (dss : List (List Deed)) : List Int → List Int → Option (List Int)
  | [], s => some s
  | k :: p, s => (stepR w s (dss.getD k.toNat [])).bind (runs w dss p)
theorem runs_snoc : ∀ (p : List Int) (k : Int) (s : List Int), runs w dss (p ++ [k]) s = (runs w dss p s).bind fun t => stepR w t (dss.getD k.toNat [])
  | [], k, s => by
    show (stepR w s (dss.getD k.toNat [])).bind (fun t => some t) = stepR w s (dss.getD k.toNat [])
    cases stepR w s (dss.getD k.toNat []) <;> rfl
  | x :: p, k, s => by
    show (stepR w s _).bind (runs w dss (p ++ [k])) = ((stepR w s _).bind (runs w dss p)).bind _
    cases stepR w s (dss.getD x.toNat []) with
    | none => rfl
    | some t => exact runs_snoc p k t
theorem Rch.runs {p : List Int} {r : Rw} (h : Rch w dss s0 p r) : LW.runs w dss p s0 = some r.2 := by
  induction h with
  | nil => rfl
  | snoc h hm ih =>
    obtain ⟨i, ds, h1, h2, h3, h4, h5⟩ := mem_nxts.mp hm
    rw [runs_snoc, ih]
    show stepR w _ _ = _
    rw [h2, Int.toNat_natCast, List.getD_eq_getElem?_getD, h1]
    exact h4
/-! how many rows -/
def codeP : List Int → Int
  | [] => 0
  | x :: p => (x + 1) + 8 * codeP p
theorem codeP_inj : ∀ {p q : List Int}, (∀ x ∈ p, 0 ≤ x ∧ x < 7) → (∀ x ∈ q, 0 ≤ x ∧ x < 7) → codeP p = codeP q → p = q
  | [], [], _, _, _ => rfl
  | x :: p, [], h, _, e => by
    have h1 := h x List.mem_cons_self
    have e : (x + 1) + 8 * codeP p = 0 := e
    omega
  | [], y :: q, _, h, e => by
    have h1 := h y List.mem_cons_self
    have e : 0 = (y + 1) + 8 * codeP q := e
    omega
  | x :: p, y :: q, hp, hq, e => by
    have h1 := hp x List.mem_cons_self
    have h2 := hq y List.mem_cons_self
    have e : (x + 1) + 8 * codeP p = (y + 1) + 8 * codeP q := e
    have ex : x = y := by omega
    rw [ex, codeP_inj (fun z hz => hp z (List.mem_cons_of_mem _ hz)) (fun z hz => hq z (List.mem_cons_of_mem _ hz)) (by omega)]
theorem codeP_rng : ∀ {p : List Int} {n : Nat}, (∀ x ∈ p, 0 ≤ x ∧ x < 7) → p.length ≤ n → 0 ≤ codeP p ∧ codeP p < ((8 ^ n : Nat) : Int)
  | [], n, _, _ => by
    refine ⟨Int.le_refl _, ?_⟩
    have : 0 < 8 ^ n := Nat.pos_of_ne_zero (by simp)
    show (0 : Int) < _
    omega
  | x :: p, 0, _, hl => by simp at hl
  | x :: p, n + 1, h, hl => by
    have h1 := h x List.mem_cons_self
    obtain ⟨i1, i2⟩ := codeP_rng (p := p) (n := n) (fun z hz => h z (List.mem_cons_of_mem _ hz)) (by simpa using hl)
    rw [Nat.pow_succ]
    show 0 ≤ (x + 1) + 8 * codeP p ∧ (x + 1) + 8 * codeP p < _
    omega
theorem rows_few {l : List Rw} (hd : dss.length ≤ 7) (nd : l.Nodup) (h : ∀ r ∈ l, ∃ p, Rch w dss s0 p r) : l.length ≤ 2097152 := by
  have hr : ∀ r ∈ l, ∃ c : Int, ∃ p, Rch w dss s0 p r ∧ c = codeP p := fun r hr => let ⟨p, hp⟩ := h r hr; ⟨_, p, hp, rfl⟩
  haveI : ∀ r : Rw, Decidable (∃ p, Rch w dss s0 p r) := fun r => Classical.propDecidable _
  let f : Rw → Int := fun r => if z : ∃ p, Rch w dss s0 p r then codeP z.choose else 0
  have hf : ∀ r ∈ l, ∃ p, Rch w dss s0 p r ∧ f r = codeP p := fun r hr => ⟨(h r hr).choose, (h r hr).choose_spec, dif_pos (h r hr)⟩
  have rng : ∀ {p : List Int} {r : Rw}, Rch w dss s0 p r → (∀ x ∈ p, 0 ≤ x ∧ x < 7) ∧ p.length ≤ 7 := fun {p r} hp => by
    obtain ⟨_, pn, pr, _⟩ := hp.perm
    refine ⟨fun x hx => by have := pr x hx; omega, nodup_le 7 p pn fun x hx => by have := pr x hx; omega⟩
  have := nodup_le 2097152 (l.map f) (by
    rw [List.nodup_iff_pairwise_ne] at nd ⊢
    rw [List.pairwise_map]
    refine List.Pairwise.imp_of_mem (fun {a b} ha hb hne e => hne ?_) nd
    obtain ⟨p, hp, ep⟩ := hf a ha
    obtain ⟨q, hq, eq⟩ := hf b hb
    have : p = q := codeP_inj (rng hp).1 (rng hq).1 (ep.symm.trans (e.trans eq))
    exact hp.one this hq) (fun x hx => by
    obtain ⟨r, hr, rfl⟩ := List.mem_map.mp hx
    obtain ⟨p, hp, ep⟩ := hf r hr
    rw [ep]
    have := codeP_rng (rng hp).1 (rng hp).2
    exact this)
  simpa using this
end
/-! dicts of rows -/
theorem ints_eq : ∀ (l m : List Int), eqBs (l.map D.int) (m.map D.int) = decide (l = m)
  | [], [] => rfl
  | [], _ :: _ => rfl
  | _ :: _, [] => rfl
  | x :: l, y :: m => by
    show (decide (x = y) && eqBs (l.map D.int) (m.map D.int)) = _
    rw [ints_eq l m]
    by_cases h : x = y <;> simp [h]
theorem rowD_eq (r t : Rw) : eqB (rowD r) (rowD t) = decide (r = t) := by
  show (eqBs (r.1.map D.int) (t.1.map D.int) && (eqBs (r.2.map D.int) (t.2.map D.int) && true)) = _
  rw [ints_eq, ints_eq, Bool.and_true]
  obtain ⟨r1, r2⟩ := r
  obtain ⟨t1, t2⟩ := t
  by_cases h1 : r1 = t1 <;> by_cases h2 : r2 = t2 <;> simp [Prod.mk.injEq, h1, h2]
theorem rowD_key (r : Rw) : keyN (rowD r) = true := by
  show (pls 6 (r.1.map D.int) && (pls 6 (r.2.map D.int) && true)) = true
  rw [pls_ints, pls_ints]; rfl
def encR {α : Type} (f : α → D) (l : List (Rw × α)) : List (D × D) := l.map fun p => (rowD p.1, f p.2)
theorem encR_len {α : Type} (f : α → D) (l : List (Rw × α)) : (encR f l).length = l.length := List.length_map ..
theorem encR_keys {α : Type} (f : α → D) (l : List (Rw × α)) : (encR f l).map Prod.fst = (l.map Prod.fst).map rowD := by unfold encR; rw [List.map_map, List.map_map]; rfl
theorem dget_row {α : Type} {f : α → D} : ∀ {l : List (Rw × α)} {r : Rw} {y : α}, (l.map Prod.fst).Nodup → (r, y) ∈ l → dget (encR f l) (rowD r) = some (f y)
  | (k, v) :: l, r, y, nd, h => by
    show (match eqB (rowD k) (rowD r) with | true => some (f v) | false => dget (encR f l) (rowD r)) = _
    rw [rowD_eq]
    have nd := List.nodup_cons.mp (show (k :: l.map Prod.fst).Nodup from nd)
    rcases List.mem_cons.mp h with e | h
    · cases e; rw [decide_eq_true rfl]
    · have hk : k ≠ r := fun e => by subst e; exact nd.1 (List.mem_map_of_mem (f := Prod.fst) h)
      rw [decide_eq_false hk]
      exact dget_row nd.2 h
theorem dget_no {α : Type} {f : α → D} : ∀ {l : List (Rw × α)} {r : Rw}, r ∉ l.map Prod.fst → dget (encR f l) (rowD r) = none
  | [], _, _ => rfl
  | (k, v) :: l, r, h => by
    show (match eqB (rowD k) (rowD r) with | true => some (f v) | false => dget (encR f l) (rowD r)) = _
    rw [rowD_eq]
    have hk : k ≠ r := fun e => h (by simp [e])
    rw [decide_eq_false hk]
    exact dget_no fun z => h (by simp only [List.map_cons, List.mem_cons]; exact .inr z)
theorem dhas_row {α : Type} {f : α → D} {l : List (Rw × α)} {r : Rw} (nd : (l.map Prod.fst).Nodup) : dhas (encR f l) (rowD r) = decide (r ∈ l.map Prod.fst) := by
  unfold dhas
  by_cases h : r ∈ l.map Prod.fst
  · obtain ⟨⟨k, v⟩, hm, rfl⟩ := List.mem_map.mp h
    rw [dget_row nd hm, decide_eq_true h]; rfl
  · rw [dget_no h, decide_eq_false h]; rfl
theorem dput_row {α : Type} {f : α → D} {l : List (Rw × α)} {r : Rw} {y : α} (h : r ∉ l.map Prod.fst) : dput (encR f l) (rowD r) (f y) = encR f (l ++ [(r, y)]) := by
  unfold dput dhas
  rw [dget_no h]
  show encR f l ++ _ = _
  unfold encR
  rw [List.map_append]; rfl
end LW

/-! W2: what can be done next: next_rows, the law's own; order_to. -/
namespace LW
open PySem L2 PySem.Spec PyProof.Rows DL
theorem isS {T : Tbl} {c : Nat → List Vx → Hs → VK2 → Prop} {r : R} {σ : Sl} {S : Hs} {nx bk ct : SK2} {rt : VK2} (h : DL.wpS T c r σ S nx rt bk ct) : DL.wpS T c r σ S nx rt bk ct := h
theorem storD {x : D} {P : Prop} (h : P) : stor (.d x) P := h
theorem storVl {x : List D} {P : Prop} (h : P) : stor (.vl x) P := h
theorem bxD {x : D} {S : Hs} {K : D → Hs → Prop} (h : K x S) : bx (.d x) S K := h
local macro_rules | `(tactic| walk_at "s1") => `(tactic| first | with_reducible refine one1_i ?_ | with_reducible refine storD ?_ | with_reducible refine storVl ?_ | with_reducible refine bxD ?_ | refine ⟨_, rfl, ?_⟩ | refine ⟨_, by assumption, ?_⟩ | refine ⟨rfl, ?_⟩ | refine ⟨.inl rfl, ?_⟩ | refine ⟨Nat.le_of_ble_eq_true rfl, ?_⟩)
local macro_rules | `(tactic| walk_at "go") => `(tactic| (walk_at "s1"; repeat ((fail_if_success with_reducible refine isS ?_); walk_at "s1")))
local macro_rules | `(tactic| walk_at "run") => `(tactic| repeat walk_at "s1")
abbrev dD (ds : List Deed) : D := .tup (encs ds)
theorem flat_ints : ∀ l : List Int, (l.map D.int).all flatD = true
  | [] => rfl
  | _ :: l => flat_ints l
/-- what is asked of the dealings -/
structure Dss (nb w nw : Int) (dss : List (List Deed)) : Prop where
  w0 : 0 < w
  n6 : nb ≤ 6
  l : dss.length ≤ 7
  d : ∀ ds ∈ dss, deps ds ≤ 2 ∧ okDeeds nb nw ds ∧ ds.length ≤ 1000
/-- a call that tells what a dealing comes to, alone -/
def AloneC (c : Nat → List Vx → Hs → VK2 → Prop) (f : Nat) (a nb w nw : Int) : Prop := ∀ (S : Hs) (s : List Int) (ds : List Deed) (Q : VK2), (s.length : Int) = nb → deps ds ≤ 2 → okDeeds nb nw ds → ds.length ≤ 1000 → AlR S w s ds Q → c f [.d (.tup [.int a, .int w]), .d (dD ds), .d (.tup (s.map .int))] S Q
theorem aloneC {T : Tbl} (A : AlT T) (n : Nat) {a nb w nw : Int} (w0 : 0 < w) (n6 : nb ≤ 6) : AloneC (cal T (n + 8)) 43 a nb w nw := fun S s ds Q hs hd ho hl q => by
  have ho : okDeeds s.length nw ds := by rw [hs]; exact ho
  exact lev (by omega) (alone_ok (S := S) (a := a) (w := w) (nw := nw) (s := s) (ds := ds) (Q := Q) A.E A.f37 A.f38 A.c38 A.hi A.hg A.f43 n 2 w0 (by omega) hd ho hl q)
theorem lawAloneC {T : Tbl} (L : LwT T) (n : Nat) {a nb w nw : Int} (w0 : 0 < w) (n6 : nb ≤ 6) : AloneC (cal T (n + 8)) 46 a nb w nw := fun S s ds Q hs hd ho hl q => by
  have ho : okDeeds s.length nw ds := by rw [hs]; exact ho
  exact lev (by omega) (law_alone_ok (S := S) (a := a) (w := w) (nw := nw) (s := s) (ds := ds) (Q := Q) L.f44 L.f45 L.f46 (n + 3) 2 w0 (by omega) hd ho q)
theorem eq_done : eqB sDone (.str [100, 111, 110, 101]) = true := rfl
theorem eq_waits : eqB sWaits (.str [100, 111, 110, 101]) = false := rfl
section
variable {T : Tbl} {S : Hs} {a nb w nw : Int} {dss : List (List Deed)} {r : Rw} {Q : VK2}
theorem next_rows_ok (hT : T.fn 329 = some f_next_rows) (n : Nat) (ca : AloneC (cal T n) 43 a nb w nw) (hD : Dss nb w nw dss) (hs : (r.2.length : Int) = nb) (hr : r.1.length ≤ 10)
    (q : ∀ S', Ext S S' → Q (.vl ((nxts w dss r).map nextD)) S') : cal T (n + 1) 329 [.d (.tup [.int a, .int w]), .bw (dss.map dD), .d (rowD r)] S Q := by
  refine ⟨_, hT, rfl, rfl, ?_⟩
  generalize cal T n = c at ca ⊢
  refine ⟨_, rfl, ⟨_, rfl, ⟨_, rfl, ?_⟩⟩⟩
  refine ⟨_, rfl, (show 0 ≤ sizeLine by decide), ?_⟩
  refine ⟨_, rfl, ?_⟩
  refine forL_enum dD (fun m rest σ S' => Ext S S' ∧ ∃ acc s6 s7 s8, σ = [some (.d (.tup [.int a, .int w])), some (.bw (dss.map dD)), some (.d (rowD r)), some (.d (.tup (r.1.map .int))), some (.d (.tup (r.2.map .int))), some (.vl (acc.map nextD)), s6, s7, s8] ∧ acc ++ nxA w r m rest = nxts w dss r ∧ acc.length ≤ m ∧ m + rest.length = dss.length)
    (fun _ _ _ _ _ => trivial) ?_ ?_ _ _ ⟨Ext.refl, [], _, _, _, rfl, rfl, Nat.zero_le _, by simp⟩
  · rintro m σ S' ⟨ex, acc, s6, s7, s8, rfl, e, l1, l2⟩
    have e : acc = nxts w dss r := by rw [← e]; show _ = acc ++ []; rw [List.append_nil]
    subst e
    exact ⟨_, rfl, q _ ex⟩
  · rintro m ds rest hds kk σ S' hk ⟨ex, acc, s6, s7, s8, rfl, e, l1, l2⟩
    have hl7 := hD.l
    have l2 : m + (rest.length + 1) = dss.length := l2
    refine ⟨_, rfl, ?_⟩
    refine ⟨_, rfl, ⟨_, rfl, ⟨rfl, flat_ints _, ?_⟩⟩⟩
    rw [any_ints]
    refine Br.mk (fun hb => ?_) (fun hb => ?_)
    · have hn : ¬ (m : Int) ∈ r.1 := by simpa using hb
      obtain ⟨d1, d2, d3⟩ := hD.d ds hds
      refine ⟨_, rfl, ⟨_, rfl, ⟨_, rfl, ca S' r.2 ds _ hs d1 d2 d3 ?_⟩⟩⟩
      intro S2 ex2
      split
      · rename_i hw
        intro l _ _
        refine ⟨_, rfl, ⟨_, rfl, ⟨rfl, rfl, Br.ff ?_⟩⟩⟩
        refine hk _ _ ⟨ex.trans ex2, acc, _, _, _, rfl, ?_, by omega, by omega⟩
        rw [← e]
        show _ = acc ++ (if (m : Int) ∈ r.1 then _ else match stepR w r.2 ds with | none => _ | some s' => _)
        rw [if_neg hn]
        unfold stepR
        rw [if_pos hw]
      · rename_i hw
        refine ⟨_, rfl, ⟨_, rfl, ⟨rfl, rfl, Br.tt ?_⟩⟩⟩
        refine ⟨_, rfl, ?_⟩
        refine ⟨_, rfl, ⟨_, rfl, ⟨_, rfl, ⟨_, rfl, (show 1 ≤ sizeLine by decide), ?_⟩⟩⟩⟩
        refine ⟨by rw [List.length_map, sizeLine_eq]; show r.1.length + 1 ≤ _; omega, ?_⟩
        refine ⟨r.1 ++ [(m : Int)], .inr (.inr (by rw [List.map_append]; rfl)), fun ns' pp pw => ?_⟩
        rw [srt_eq pp pw]
        refine ⟨_, rfl, ⟨_, rfl, ⟨_, rfl, ⟨_, rfl, (show 2 ≤ sizeLine by decide), ⟨_, rfl, (show 2 ≤ sizeLine by decide), ?_⟩⟩⟩⟩⟩
        refine ⟨by rw [List.length_map, sizeLine_eq]; omega, ?_⟩
        have := hk _ S2 ⟨ex.trans ex2, acc ++ [((m : Int), (srt (r.1 ++ [(m : Int)]), nowS r.2 (gos w r.2 ds 0 st0).2.puts))], some (.d (.int (m : Int))), some (.d (dD ds)), some (.d (.tup [sDone, .tup ((nowS r.2 (gos w r.2 ds 0 st0).2.puts).map .int), .tup ((gos w r.2 ds 0 st0).2.held.map .int)])), rfl, ?_, by simp; omega, by omega⟩
        · rw [List.map_append] at this
          exact this
        · rw [← e]
          show _ = acc ++ (if (m : Int) ∈ r.1 then _ else match stepR w r.2 ds with | none => _ | some s' => _)
          rw [if_neg hn]
          unfold stepR
          rw [if_neg hw, List.append_assoc]
          rfl
    · have hn : (m : Int) ∈ r.1 := by simpa using hb
      refine hk _ _ ⟨ex, acc, _, _, _, rfl, ?_, by omega, by omega⟩
      rw [← e]
      show _ = acc ++ (if (m : Int) ∈ r.1 then _ else _)
      rw [if_pos hn]
theorem law_next_ok (hT : T.fn 336 = some f_law_next_3) (n : Nat) (ca : AloneC (cal T n) 46 a nb w nw) (hD : Dss nb w nw dss) (hs : (r.2.length : Int) = nb) (hr : r.1.length ≤ 10)
    (q : ∀ S', Ext S S' → Q (.vl ((nxts w dss r).map nextD)) S') : cal T (n + 1) 336 [.d (.tup [.int a, .int w]), .bw (dss.map dD), .d (rowD r)] S Q := by
  refine ⟨_, hT, rfl, rfl, ?_⟩
  generalize cal T n = c at ca ⊢
  refine ⟨_, rfl, (show 0 ≤ sizeLine by decide), ?_⟩
  refine ⟨_, rfl, ?_⟩
  refine forL_enum dD (fun m rest σ S' => Ext S S' ∧ ∃ acc s6 s7 s8, σ = [some (.d (.tup [.int a, .int w])), some (.bw (dss.map dD)), some (.d (rowD r)), some (.vl (acc.map nextD)), s6, s7, s8] ∧ acc ++ nxA w r m rest = nxts w dss r ∧ acc.length ≤ m ∧ m + rest.length = dss.length)
    (fun _ _ _ _ _ => trivial) ?_ ?_ _ _ ⟨Ext.refl, [], _, _, _, rfl, rfl, Nat.zero_le _, by simp⟩
  · rintro m σ S' ⟨ex, acc, s6, s7, s8, rfl, e, l1, l2⟩
    have e : acc = nxts w dss r := by rw [← e]; show _ = acc ++ []; rw [List.append_nil]
    subst e
    exact ⟨_, rfl, q _ ex⟩
  · rintro m ds rest hds kk σ S' hk ⟨ex, acc, s6, s7, s8, rfl, e, l1, l2⟩
    have hl7 := hD.l
    have l2 : m + (rest.length + 1) = dss.length := l2
    refine ⟨_, rfl, ?_⟩
    refine ⟨_, rfl, ⟨_, rfl, ⟨_, rfl, ⟨rfl, flat_ints _, ?_⟩⟩⟩⟩
    rw [any_ints]
    refine Br.mk (fun hb => ?_) (fun hb => ?_)
    · have hn : ¬ (m : Int) ∈ r.1 := by simpa using hb
      obtain ⟨d1, d2, d3⟩ := hD.d ds hds
      refine ⟨_, rfl, ⟨_, rfl, ⟨_, rfl, ⟨_, rfl, ca S' r.2 ds _ hs d1 d2 d3 ?_⟩⟩⟩⟩
      intro S2 ex2
      split
      · rename_i hw
        intro l _ _
        refine ⟨_, rfl, ⟨_, rfl, ⟨rfl, rfl, Br.ff ?_⟩⟩⟩
        refine hk _ _ ⟨ex.trans ex2, acc, _, _, _, rfl, ?_, by omega, by omega⟩
        rw [← e]
        show _ = acc ++ (if (m : Int) ∈ r.1 then _ else match stepR w r.2 ds with | none => _ | some s' => _)
        rw [if_neg hn]
        unfold stepR
        rw [if_pos hw]
      · rename_i hw
        refine ⟨_, rfl, ⟨_, rfl, ⟨rfl, rfl, Br.tt ?_⟩⟩⟩
        refine ⟨_, rfl, ?_⟩
        refine ⟨_, rfl, ⟨_, rfl, ⟨_, rfl, ⟨_, rfl, ⟨_, rfl, (show 1 ≤ sizeLine by decide), ?_⟩⟩⟩⟩⟩
        refine ⟨by rw [List.length_map, sizeLine_eq]; show r.1.length + 1 ≤ _; omega, ?_⟩
        refine ⟨r.1 ++ [(m : Int)], .inr (.inr (by rw [List.map_append]; rfl)), fun ns' pp pw => ?_⟩
        rw [srt_eq pp pw]
        refine ⟨_, rfl, ⟨_, rfl, ⟨_, rfl, ⟨_, rfl, (show 2 ≤ sizeLine by decide), ⟨_, rfl, (show 2 ≤ sizeLine by decide), ?_⟩⟩⟩⟩⟩
        refine ⟨by rw [List.length_map, sizeLine_eq]; omega, ?_⟩
        have := hk _ S2 ⟨ex.trans ex2, acc ++ [((m : Int), (srt (r.1 ++ [(m : Int)]), nowS r.2 (gos w r.2 ds 0 st0).2.puts))], some (.d (.int (m : Int))), some (.d (dD ds)), some (.d (.tup [sDone, .tup ((nowS r.2 (gos w r.2 ds 0 st0).2.puts).map .int), .tup ((gos w r.2 ds 0 st0).2.held.map .int)])), rfl, ?_, by simp; omega, by omega⟩
        · rw [List.map_append] at this
          exact this
        · rw [← e]
          show _ = acc ++ (if (m : Int) ∈ r.1 then _ else match stepR w r.2 ds with | none => _ | some s' => _)
          rw [if_neg hn]
          unfold stepR
          rw [if_neg hw, List.append_assoc]
          rfl
    · have hn : (m : Int) ∈ r.1 := by simpa using hb
      refine hk _ _ ⟨ex, acc, _, _, _, rfl, ?_, by omega, by omega⟩
      rw [← e]
      show _ = acc ++ (if (m : Int) ∈ r.1 then _ else _)
      rw [if_pos hn]
end
end LW

/-! W3: all rows that are come by. -/
namespace LW
open PySem L2 PySem.Spec PyProof.Rows DL
abbrev Ent := Option (Rw × Int)
def entD : Ent → D
  | none => .non
  | some (q, k) => .tup [rowD q, .int k]
structure Led (w : Int) (dss : List (List Deed)) (s0 : List Int) (led : List (Rw × Ent)) : Prop where
  nd : (led.map Prod.fst).Nodup
  hd : led[0]? = some (([], s0), none)
  lk : ∀ (i : Nat) r e, led[i]? = some (r, e) → (i = 0 ∧ e = none) ∨ ∃ q k j e', e = some (q, k) ∧ j < i ∧ led[j]? = some (q, e') ∧ (k, r) ∈ nxts w dss q
structure Bfs (w : Int) (dss : List (List Deed)) (s0 : List Int) (led : List (Rw × Ent)) (n : Nat) : Prop where
  L : Led w dss s0 led
  cl : ∀ (i : Nat) r e, i < n → led[i]? = some (r, e) → ∀ p ∈ nxts w dss r, p.2 ∈ led.map Prod.fst
  le : n ≤ led.length
  so : (led.map fun x => x.1.1.length).Pairwise (· ≤ ·)
  up : ∀ ra ea, led[n]? = some (ra, ea) → ∀ x ∈ led, x.1.1.length ≤ ra.1.length + 1
section
variable {w : Int} {dss : List (List Deed)} {s0 : List Int} {led : List (Rw × Ent)} {n : Nat}
theorem Led.path (L : Led w dss s0 led) : ∀ (i : Nat) r e, led[i]? = some (r, e) → ∃ p, Rch w dss s0 p r := by
  intro i
  induction i using Nat.strongRecOn with
  | ind i ih =>
    intro r e h
    rcases L.lk i r e h with ⟨rfl, rfl⟩ | ⟨q, k, j, e', rfl, hj, hq, hm⟩
    · rw [L.hd] at h; cases h
      exact ⟨[], .nil⟩
    · obtain ⟨p, hp⟩ := ih j hj q e' hq
      exact ⟨p ++ [k], hp.snoc hm⟩
theorem Led.key (L : Led w dss s0 led) {r : Rw} (h : r ∈ led.map Prod.fst) : ∃ p, Rch w dss s0 p r := by
  obtain ⟨⟨r', e⟩, hm, rfl⟩ := List.mem_map.mp h
  obtain ⟨i, hi, e1⟩ := List.mem_iff_getElem.mp hm
  exact L.path i _ e (by rw [List.getElem?_eq_getElem hi, e1])
theorem Led.few (L : Led w dss s0 led) (hd : dss.length ≤ 7) : led.length ≤ 2097152 := by
  have := rows_few (w := w) (s0 := s0) hd L.nd fun r hr => L.key hr
  simpa using this
theorem Bfs.first : Bfs w dss s0 [(([], s0), none)] 0 where
  L := ⟨by simp, rfl, fun i r e h => by
    cases i with
    | zero => cases h; exact .inl ⟨rfl, rfl⟩
    | succ i => simp at h⟩
  cl := fun i r e h => by omega
  le := Nat.zero_le _
  so := List.pairwise_singleton _ _
  up := fun ra ea h x hx => by cases h; simp at hx; subst hx; exact Nat.zero_le 1
theorem nx_len {r r' : Rw} {k : Int} (h : (k, r') ∈ nxts w dss r) : r'.1.length = r.1.length + 1 := by
  obtain ⟨i, ds, h1, h2, h3, h4, h5⟩ := mem_nxts.mp h
  rw [h5, (srt_perm _).length_eq, List.length_append, List.length_singleton]
theorem Bfs.push (B : Bfs w dss s0 led n) {ra : Rw} {ea : Ent} (ha : led[n]? = some (ra, ea)) {k : Int} {r' : Rw} (hm : (k, r') ∈ nxts w dss ra) (hn : r' ∉ led.map Prod.fst) : Bfs w dss s0 (led ++ [(r', some (ra, k))]) n := by
  have hlt : n < led.length := (List.getElem?_eq_some_iff.mp ha).1
  have hl := nx_len hm
  refine ⟨⟨?_, ?_, fun i r e h => ?_⟩, fun i r e hi h p hp => ?_, ?_, ?_, fun ra' ea' h x hx => ?_⟩
  · rw [List.map_append]
    refine List.nodup_append.mpr ⟨B.L.nd, by simp, fun x hx y hy e => by simp at hy; subst hy; subst e; exact hn hx⟩
  · rw [List.getElem?_append_left (by omega)]; exact B.L.hd
  · by_cases hi : i < led.length
    · rw [List.getElem?_append_left hi] at h
      rcases B.L.lk i r e h with z | ⟨q, k', j, e', a1, a2, a3, a4⟩
      · exact .inl z
      · exact .inr ⟨q, k', j, e', a1, a2, by rw [List.getElem?_append_left (by omega)]; exact a3, a4⟩
    · rw [List.getElem?_append_right (by omega)] at h
      have hi0 : i - led.length = 0 := by
        have := (List.getElem?_eq_some_iff.mp h).1
        simp at this; omega
      rw [hi0] at h
      cases h
      exact .inr ⟨ra, k, n, ea, rfl, by omega, by rw [List.getElem?_append_left hlt]; exact ha, hm⟩
  · rw [List.getElem?_append_left (by omega)] at h
    rw [List.map_append]
    exact List.mem_append_left _ (B.cl i r e hi h p hp)
  · rw [List.length_append]; have := B.le; omega
  · rw [List.map_append]
    refine List.pairwise_append.mpr ⟨B.so, List.pairwise_singleton _ _, fun x hx y hy => ?_⟩
    simp only [List.map_cons, List.map_nil, List.mem_singleton] at hy
    obtain ⟨z, hz, rfl⟩ := List.mem_map.mp hx
    have := B.up ra ea ha z hz
    omega
  · rw [List.getElem?_append_left hlt, ha] at h
    cases h
    rcases List.mem_append.mp hx with hx | hx
    · exact B.up ra ea ha x hx
    · simp at hx
      subst hx
      show r'.1.length ≤ _
      omega
theorem Bfs.next (B : Bfs w dss s0 led n) {ra : Rw} {ea : Ent} (ha : led[n]? = some (ra, ea)) (hc : ∀ p ∈ nxts w dss ra, p.2 ∈ led.map Prod.fst) : Bfs w dss s0 led (n + 1) := by
  have hlt : n < led.length := (List.getElem?_eq_some_iff.mp ha).1
  refine ⟨B.L, fun i r e hi h p hp => ?_, hlt, B.so, fun rb eb h x hx => ?_⟩
  · by_cases z : i = n
    · subst z
      rw [ha] at h; cases h
      exact hc p hp
    · exact B.cl i r e (by omega) h p hp
  · have h1 := B.up ra ea ha x hx
    have h2 : ra.1.length ≤ rb.1.length := by
      have hlt2 := (List.getElem?_eq_some_iff.mp h).1
      have := List.pairwise_iff_getElem.mp B.so n (n + 1) (by simpa using hlt) (by simpa using hlt2) (by omega)
      rw [List.getElem_map, List.getElem_map, (List.getElem?_eq_some_iff.mp ha).2, (List.getElem?_eq_some_iff.mp h).2] at this
      exact this
    omega
theorem Bfs.all (B : Bfs w dss s0 led n) (hn : led.length ≤ n) {p : List Int} {r : Rw} (h : Rch w dss s0 p r) : r ∈ led.map Prod.fst := by
  induction h with
  | nil => exact List.mem_map.mpr ⟨_, List.mem_of_getElem? B.L.hd, rfl⟩
  | @snoc p r k r' h hm ih =>
    obtain ⟨⟨r2, e⟩, hx, rfl⟩ := List.mem_map.mp ih
    obtain ⟨i, hi, e1⟩ := List.mem_iff_getElem.mp hx
    exact B.cl i _ e (by omega) (by rw [List.getElem?_eq_getElem hi, e1]) _ hm
end
section
variable {T : Tbl} {S : Hs} {a nb w nw : Int} {dss : List (List Deed)} {s0 : List Int} {Q : VK2}
theorem order_to_ok (hT : T.fn 330 = some f_order_to_2) (n : Nat) {led : List (Rw × Ent)} {d : Addr} {h : HO} {ns : List (NestedKey × Addr × Value)} (L : Led w dss s0 led) (hl : led.length ≤ 2097152) (hd : S d = some (.fdn (encR entD led) h ns)) {i : Nat} {r : Rw} {e : Ent} (hi : led[i]? = some (r, e))
    (q : ∀ p, Rch w dss s0 p r → Q (.vl (p.map .int)) S) : cal T (n + 1) 330 [.d (.ref d), .d (rowD r)] S Q := by
  refine ⟨_, hT, rfl, rfl, ?_⟩
  generalize cal T n = c
  have get : ∀ {i : Nat} {r : Rw} {e : Ent}, led[i]? = some (r, e) → dget (encR entD led) (rowD r) = some (entD e) := fun h => dget_row L.nd (List.mem_of_getElem? h)
  refine ⟨_, rfl, (show 0 ≤ sizeLine by decide), ?_⟩
  refine whl_inv (m := i) (fun m σ S' => S' = S ∧ ∃ r' e' acc s3, σ = [some (.d (.ref d)), some (.d (rowD r')), some (.vl (acc.map .int)), s3] ∧ led[m]? = some (r', e') ∧ acc.length + m ≤ led.length ∧ ∀ p, Rch w dss s0 p r' → Rch w dss s0 (p ++ acc.reverse) r) ?_
    ⟨rfl, r, e, [], _, rfl, hi, by have := (List.getElem?_eq_some_iff.mp hi).1; simp; omega, fun p hp => by simpa using hp⟩
  rintro m σ S' k hk ⟨rfl, r', e', acc, s3, rfl, hm, hl2, hp⟩
  rcases L.lk m r' e' hm with ⟨rfl, rfl⟩ | ⟨qr, kk, j, e2, rfl, hj, hq, hmem⟩
  · rw [L.hd] at hm
    cases hm
    refine ⟨_, rfl, ⟨_, rfl, ⟨_, hd, ⟨rowD_key _, _, get L.hd, ⟨_, rfl, Br.ff ?_⟩⟩⟩⟩⟩
    refine ⟨_, rfl, ⟨_, rfl, ?_⟩⟩
    rw [← List.map_reverse]
    exact q _ (by simpa using hp [] .nil)
  · refine ⟨_, rfl, ⟨_, rfl, ⟨_, hd, ⟨rowD_key _, _, get hm, ⟨_, rfl, Br.tt ?_⟩⟩⟩⟩⟩
    refine ⟨_, rfl, ⟨_, rfl, ⟨_, hd, ⟨rowD_key _, _, get hm, ?_⟩⟩⟩⟩
    refine ⟨_, rfl, ⟨_, rfl, ?_⟩⟩
    refine ⟨_, rfl, ⟨_, rfl, ⟨?_, ?_⟩⟩⟩
    · rw [List.length_map, sizeLine_eq]; omega
    · have := hk j [some (.d (.ref d)), some (.d (rowD qr)), some (.vl ((acc ++ [kk]).map .int)), some (.d (.int kk))] S' hj
        ⟨rfl, qr, e2, acc ++ [kk], _, rfl, hq, by simp; omega, fun p h => by
          have := hp _ (h.snoc hmem)
          simpa using this⟩
      rw [List.map_append] at this
      exact this
end
end LW

/-! W4: all_rows, the law's own. -/
namespace LW
open PySem L2 PySem.Spec PyProof.Rows DL
theorem getI_nat {ds : List D} {n : Nat} {y : D} (h : ds[n]? = some y) : getI ds (n : Int) = some y := h
section
variable {T : Tbl} {S : Hs} {a nb w nw : Int} {dss : List (List Deed)} {s0 : List Int} {Q : VK2}
theorem keys_at {led : List (Rw × Ent)} {i : Nat} {r : Rw} {e : Ent} (h : led[i]? = some (r, e)) : ((led.map Prod.fst).map rowD)[i]? = some (rowD r) := by
  rw [List.getElem?_map, List.getElem?_map, h]; rfl
theorem all_rows_ok (h329 : T.fn 329 = some f_next_rows) (hT : T.fn 331 = some f_all_rows) (n : Nat) (ca : AloneC (cal T n) 43 a nb w nw) (hD : Dss nb w nw dss) (hs : (s0.length : Int) = nb)
    (q : ∀ d led S', Ext S S' → S d = none → S' d = some (.dn (encR entD led)) → Bfs w dss s0 led led.length → Q (.d (.ref d)) S') : cal T (n + 2) 331 [.d (.tup [.int a, .int w]), .bw (dss.map dD), .d (.tup (s0.map .int))] S Q := by
  refine ⟨_, hT, rfl, rfl, ?_⟩
  have c329 := fun S r Q hs hr q => next_rows_ok h329 n ca hD (S := S) (r := r) (Q := Q) hs hr q
  generalize cal T (n + 1) = c at c329 ⊢
  refine ⟨_, rfl, (show 0 ≤ sizeLine by decide), ?_⟩
  refine ⟨_, rfl, ⟨_, rfl, (show 2 ≤ sizeLine by decide), ?_⟩⟩
  refine ⟨_, rfl, ⟨_, rfl, rowD_key ([], s0), fun d hd => ?_⟩⟩
  refine ⟨_, rfl, ⟨_, rfl, (show 1 ≤ sizeLine by decide), ?_⟩⟩
  refine whl_inv (m := 2097153) (fun m σ S' => ∃ led at_ s7 s8, σ = [some (.d (.tup [.int a, .int w])), some (.bw (dss.map dD)), some (.d (.tup (s0.map .int))), some (.d (rowD ([], s0))), some (.d (.ref d)), some (.vl ((led.map Prod.fst).map rowD)), some (.d (.int ((at_ : Nat) : Int))), s7, s8] ∧ Ext S S' ∧ S' d = some (.dn (encR entD led)) ∧ Bfs w dss s0 led at_ ∧ m + at_ = 2097153) ?_
    ⟨[(([], s0), none)], 0, _, _, rfl, Ext.refl.new hd, su_same, Bfs.first, rfl⟩
  rintro m σ S' k hk ⟨led, at_, s7, s8, rfl, ex, hd', B, em⟩
  have few := B.L.few hD.l
  refine ⟨_, rfl, ⟨_, rfl, ⟨_, rfl, ?_⟩⟩⟩
  refine Br.mk (fun hb => ?_) (fun hb => ?_)
  · have hb : (at_ : Int) < (((led.map Prod.fst).map rowD).length : Int) := of_decide_eq_true hb
    rw [List.length_map, List.length_map] at hb
    have hlt : at_ < led.length := by omega
    obtain ⟨ra, ea, hra⟩ : ∃ ra ea, led[at_]? = some (ra, ea) := ⟨_, _, List.getElem?_eq_getElem hlt⟩
    obtain ⟨p0, hp0⟩ := B.L.path _ _ _ hra
    have pl7 : p0.length ≤ 7 := nodup_le 7 _ hp0.perm.2.1 fun x hx => by have := hp0.perm.2.2.1 x hx; have := hD.l; omega
    refine ⟨_, rfl, ⟨_, rfl, ⟨_, rfl, ⟨_, rfl, ⟨_, getI_nat (keys_at hra), ?_⟩⟩⟩⟩⟩
    refine c329 _ _ _ (by rw [hp0.slen]; exact hs) (by rw [hp0.size]; omega) fun S2 ex2 => ?_
    refine one1_i ?_
    refine forL_map nextD (fun rest σ S3 => ∃ led2 s7 s8, σ = [some (.d (.tup [.int a, .int w])), some (.bw (dss.map dD)), some (.d (.tup (s0.map .int))), some (.d (rowD ([], s0))), some (.d (.ref d)), some (.vl ((led2.map Prod.fst).map rowD)), some (.d (.int ((at_ : Nat) : Int))), s7, s8] ∧ Ext S S3 ∧ S3 d = some (.dn (encR entD led2)) ∧ Bfs w dss s0 led2 at_ ∧ led2[at_]? = some (ra, ea) ∧ ∀ p ∈ nxts w dss ra, p ∈ rest ∨ p.2 ∈ led2.map Prod.fst)
      (fun _ _ _ _ => trivial) ?_ ?_ _ _ ⟨led, _, _, rfl, ex.trans ex2, ex2 _ _ hd', B, hra, fun p hp => .inl hp⟩
    · rintro σ S3 ⟨led2, s7, s8, rfl, ex3, hd3, B3, ha3, hc⟩
      have B4 := B3.next ha3 fun p hp => (hc p hp).resolve_left (fun z => by cases z)
      have le4 := B4.le
      have few4 := B4.L.few hD.l
      refine ⟨_, rfl, ?_⟩
      have := hk (m - 1) [some (.d (.tup [.int a, .int w])), some (.bw (dss.map dD)), some (.d (.tup (s0.map .int))), some (.d (rowD ([], s0))), some (.d (.ref d)), some (.vl ((led2.map Prod.fst).map rowD)), some (.d (.int ((at_ + 1 : Nat) : Int))), s7, s8] S3 (by omega) ⟨led2, at_ + 1, _, _, rfl, ex3, hd3, B4, by omega⟩
      exact this
    · rintro ⟨kk, r'⟩ rest hmem _ k2 σ S3 hk2 ⟨led2, s7, s8, rfl, ex3, hd3, B3, ha3, hc⟩
      have few3 := B3.L.few hD.l
      refine ⟨_, rfl, ?_⟩
      refine ⟨_, rfl, ⟨_, rfl, ⟨_, hd3, ⟨rowD_key _, ?_⟩⟩⟩⟩
      rw [dhas_row B3.L.nd]
      refine Br.mk (fun hb2 => ?_) (fun hb2 => ?_)
      · have hn : r' ∉ led2.map Prod.fst := by simpa using hb2
        have B4 := B3.push ha3 hmem hn
        refine ⟨_, rfl, ⟨_, rfl, ⟨_, getI_nat (keys_at ha3), ?_⟩⟩⟩
        refine ⟨_, rfl, ⟨_, rfl, (show 2 ≤ sizeLine by decide), ?_⟩⟩
        refine ⟨_, rfl, ⟨_, rfl, ⟨_, _, _, rfl, hd3, rfl, ⟨rowD_key _, by rw [encR_len, sizeLine_eq]; omega, ⟨_, rfl, ?_⟩⟩⟩⟩⟩
        have ed : dput (encR entD led2) (rowD r') (entD (some (ra, kk))) = encR entD (led2 ++ [(r', some (ra, kk))]) := dput_row hn
        refine ⟨_, rfl, ⟨_, rfl, ⟨by rw [List.length_map, List.length_map, sizeLine_eq]; omega, ?_⟩⟩⟩
        have := hk2 [some (.d (.tup [.int a, .int w])), some (.bw (dss.map dD)), some (.d (.tup (s0.map .int))), some (.d (rowD ([], s0))), some (.d (.ref d)), some (.vl (((led2 ++ [(r', some (ra, kk))]).map Prod.fst).map rowD)), some (.d (.int ((at_ : Nat) : Int))), some (.d (.int kk)), some (.d (rowD r'))] (su S3 d (.dn (encR entD (led2 ++ [(r', some (ra, kk))]))))
          ⟨_, _, _, rfl, ex3.new hd, su_same, B4, by rw [List.getElem?_append_left (List.getElem?_eq_some_iff.mp ha3).1]; exact ha3, fun p hp => by
            rcases hc p hp with z | z
            · rcases List.mem_cons.mp z with rfl | z
              · exact .inr (by rw [List.map_append]; exact List.mem_append_right _ (by simp))
              · exact .inl z
            · exact .inr (by rw [List.map_append]; exact List.mem_append_left _ z)⟩
        rw [List.map_append, List.map_append] at this
        rw [← ed] at this
        exact this
      · have hn : r' ∈ led2.map Prod.fst := by simpa using hb2
        exact hk2 _ _ ⟨led2, _, _, rfl, ex3, hd3, B3, ha3, fun p hp => by
          rcases hc p hp with z | z
          · rcases List.mem_cons.mp z with rfl | z
            · exact .inr hn
            · exact .inl z
          · exact .inr z⟩
  · have hb : ¬ (at_ : Int) < (((led.map Prod.fst).map rowD).length : Int) := of_decide_eq_false hb
    rw [List.length_map, List.length_map] at hb
    have e : at_ = led.length := by have := B.le; omega
    subst e
    exact ⟨_, rfl, q d led S' ex hd hd' B⟩
structure Kn (S' : Hs) (w : Int) (dss : List (List Deed)) (s0 : List Int) (d : Addr) (led : List (Rw × Ent)) (known : List (Rw × Addr)) : Prop where
  k : known.map Prod.fst = led.map Prod.fst
  h : S' d = some (.dn (encR D.ref known))
  p : ∀ x ∈ known, x.2 ≠ d ∧ ∃ p, Rch w dss s0 p x.1 ∧ S' x.2 = some (.lst (p.map .int))
theorem Kn.ext {S1 S2 : Hs} {d : Addr} {led : List (Rw × Ent)} {known : List (Rw × Addr)} (K : Kn S1 w dss s0 d led known) (ex : Ext S1 S2) : Kn S2 w dss s0 d led known :=
  ⟨K.k, ex _ _ K.h, fun x hx => let ⟨h, p, h1, h2⟩ := K.p x hx; ⟨h, p, h1, ex _ _ h2⟩⟩
theorem law_rows_ok (h336 : T.fn 336 = some f_law_next_3) (hT : T.fn 337 = some f_law_rows) (n : Nat) (ca : AloneC (cal T n) 46 a nb w nw) (hD : Dss nb w nw dss) (hs : (s0.length : Int) = nb)
    (q : ∀ d led known S', Ext S S' → S d = none → Kn S' w dss s0 d led known → Bfs w dss s0 led led.length → Q (.d (.ref d)) S') : cal T (n + 2) 337 [.d (.tup [.int a, .int w]), .d (.tup (s0.map .int)), .bw (dss.map dD)] S Q := by
  refine ⟨_, hT, rfl, rfl, ?_⟩
  have c336 := fun S r Q hs hr q => law_next_ok h336 n ca hD (S := S) (r := r) (Q := Q) hs hr q
  generalize cal T (n + 1) = c at c336 ⊢
  refine ⟨_, rfl, (show 0 ≤ sizeLine by decide), ?_⟩
  refine ⟨_, rfl, ⟨_, rfl, (show 2 ≤ sizeLine by decide), ?_⟩⟩
  refine ⟨_, rfl, (show 1 ≤ sizeLine by decide), ?_⟩
  refine ⟨_, rfl, ⟨_, rfl, ?_⟩⟩
  refine ⟨_, rfl, (show 0 ≤ sizeLine by decide), fun b hb => ?_⟩
  refine ⟨_, rfl, rowD_key ([], s0), fun d hd => ?_⟩
  have bd : b ≠ d := fun e => by subst e; rw [su_same] at hd; cases hd
  have hd0 : S d = none := by rw [su_ne bd.symm] at hd; exact hd
  refine whl_inv (m := 2097153) (fun m σ S' => ∃ led known at_ s6 s7, σ = [some (.d (.tup [.int a, .int w])), some (.d (.tup (s0.map .int))), some (.bw (dss.map dD)), some (.vl ((led.map Prod.fst).map rowD)), some (.d (.ref d)), some (.d (.int ((at_ : Nat) : Int))), s6, s7] ∧ Ext S S' ∧ Kn S' w dss s0 d led known ∧ Bfs w dss s0 led at_ ∧ m + at_ = 2097153) ?_
    ⟨[(([], s0), none)], [(([], s0), b)], 0, _, _, rfl, (Ext.refl.new hb).new hd0, ⟨rfl, su_same, fun x hx => by simp at hx; subst hx; exact ⟨bd, [], .nil, by rw [su_ne bd]; exact su_same⟩⟩, Bfs.first, rfl⟩
  rintro m σ S' k hk ⟨led, known, at_, s6, s7, rfl, ex, K, B, em⟩
  have few := B.L.few hD.l
  refine ⟨_, rfl, ⟨_, rfl, ⟨_, rfl, ?_⟩⟩⟩
  refine Br.mk (fun hb => ?_) (fun hb => ?_)
  · have hb : (at_ : Int) < (((led.map Prod.fst).map rowD).length : Int) := of_decide_eq_true hb
    rw [List.length_map, List.length_map] at hb
    have hlt : at_ < led.length := by omega
    obtain ⟨ra, ea, hra⟩ : ∃ ra ea, led[at_]? = some (ra, ea) := ⟨_, _, List.getElem?_eq_getElem hlt⟩
    obtain ⟨p0, hp0⟩ := B.L.path _ _ _ hra
    have plen : ∀ {p r}, Rch w dss s0 p r → p.length ≤ 7 := fun {p r} hp0 => nodup_le 7 _ hp0.perm.2.1 fun x hx => by have := hp0.perm.2.2.1 x hx; have := hD.l; omega
    have pl7 := plen hp0
    refine ⟨_, rfl, ⟨_, rfl, ⟨_, rfl, ⟨_, rfl, ⟨_, getI_nat (keys_at hra), ?_⟩⟩⟩⟩⟩
    refine c336 _ _ _ (by rw [hp0.slen]; exact hs) (by rw [hp0.size]; omega) fun S2 ex2 => ?_
    refine one1_i ?_
    refine forL_map nextD (fun rest σ S3 => ∃ led2 known2 s6 s7, σ = [some (.d (.tup [.int a, .int w])), some (.d (.tup (s0.map .int))), some (.bw (dss.map dD)), some (.vl ((led2.map Prod.fst).map rowD)), some (.d (.ref d)), some (.d (.int ((at_ : Nat) : Int))), s6, s7] ∧ Ext S S3 ∧ Kn S3 w dss s0 d led2 known2 ∧ Bfs w dss s0 led2 at_ ∧ led2[at_]? = some (ra, ea) ∧ ∀ p ∈ nxts w dss ra, p ∈ rest ∨ p.2 ∈ led2.map Prod.fst)
      (fun _ _ _ _ => trivial) ?_ ?_ _ _ ⟨led, known, _, _, rfl, ex.trans ex2, K.ext ex2, B, hra, fun p hp => .inl hp⟩
    · rintro σ S3 ⟨led2, known2, s6, s7, rfl, ex3, K3, B3, ha3, hc⟩
      have B4 := B3.next ha3 fun p hp => (hc p hp).resolve_left (fun z => by cases z)
      have le4 := B4.le
      have few4 := B4.L.few hD.l
      refine ⟨_, rfl, ?_⟩
      have := hk (m - 1) [some (.d (.tup [.int a, .int w])), some (.d (.tup (s0.map .int))), some (.bw (dss.map dD)), some (.vl ((led2.map Prod.fst).map rowD)), some (.d (.ref d)), some (.d (.int ((at_ + 1 : Nat) : Int))), s6, s7] S3 (by omega) ⟨led2, known2, at_ + 1, _, _, rfl, ex3, K3, B4, by omega⟩
      exact this
    · rintro ⟨kk, r'⟩ rest hmem _ k2 σ S3 hk2 ⟨led2, known2, s6, s7, rfl, ex3, K3, B3, ha3, hc⟩
      have few3 := B3.L.few hD.l
      have kl : known2.length = led2.length := by have := congrArg List.length K3.k; simpa using this
      have knd : (known2.map Prod.fst).Nodup := by rw [K3.k]; exact B3.L.nd
      refine ⟨_, rfl, ?_⟩
      refine ⟨_, rfl, ⟨_, rfl, ⟨_, K3.h, ⟨rowD_key _, ?_⟩⟩⟩⟩
      rw [dhas_row knd, K3.k]
      refine Br.mk (fun hb2 => ?_) (fun hb2 => ?_)
      · have hn : r' ∉ led2.map Prod.fst := by simpa using hb2
        have hnk : r' ∉ known2.map Prod.fst := by rw [K3.k]; exact hn
        have B4 := B3.push ha3 hmem hn
        have hrk : ra ∈ known2.map Prod.fst := by rw [K3.k]; exact List.mem_map.mpr ⟨_, List.mem_of_getElem? ha3, rfl⟩
        obtain ⟨⟨ra2, br⟩, hx, hxe⟩ := List.mem_map.mp hrk
        have hxe : ra2 = ra := hxe
        subst hxe
        obtain ⟨_, pr, hpr, hbr⟩ := K3.p _ hx
        have pr7 := plen hpr
        refine ⟨_, rfl, ⟨_, rfl, ⟨_, rfl, ⟨_, getI_nat (keys_at ha3), ⟨_, K3.h, ⟨rowD_key _, _, dget_row knd hx, ?_⟩⟩⟩⟩⟩⟩
        refine ⟨_, rfl, ⟨_, rfl, (show 1 ≤ sizeLine by decide), ?_⟩⟩
        refine ⟨_, hbr, ⟨by rw [List.length_map, sizeLine_eq]; show pr.length + 1 ≤ _; omega, ?_⟩⟩
        refine one1_i fun b2 hb2n => ?_
        have b2d : b2 ≠ d := fun e => by subst e; rw [K3.h] at hb2n; cases hb2n
        have e1 : pr.map D.int ++ [D.int kk] = (pr ++ [kk]).map D.int := by rw [List.map_append]; rfl
        rw [e1]
        have exb : Ext S3 (su S3 b2 (.lst ((pr ++ [kk]).map .int))) := Ext.refl.new hb2n
        have K4 := K3.ext exb
        have hb4 : (su S3 b2 (.lst ((pr ++ [kk]).map .int))) b2 = some (.lst ((pr ++ [kk]).map .int)) := su_same
        have ex4 := ex3.trans exb
        generalize su S3 b2 (.lst ((pr ++ [kk]).map .int)) = S4 at exb K4 hb4 ex4 ⊢
        refine ⟨_, rfl, ⟨_, rfl, ⟨_, _, _, rfl, K4.h, rfl, ⟨rowD_key _, by rw [encR_len, sizeLine_eq]; omega, ⟨_, rfl, ?_⟩⟩⟩⟩⟩
        have ed : dput (encR D.ref known2) (rowD r') (D.ref b2) = encR D.ref (known2 ++ [(r', b2)]) := dput_row hnk
        refine ⟨_, rfl, ⟨_, rfl, ⟨by rw [List.length_map, List.length_map, sizeLine_eq]; omega, ?_⟩⟩⟩
        have := hk2 [some (.d (.tup [.int a, .int w])), some (.d (.tup (s0.map .int))), some (.bw (dss.map dD)), some (.vl (((led2 ++ [(r', some (ra2, kk))]).map Prod.fst).map rowD)), some (.d (.ref d)), some (.d (.int ((at_ : Nat) : Int))), some (.d (.int kk)), some (.d (rowD r'))] (su S4 d (.dn (encR D.ref (known2 ++ [(r', b2)]))))
          ⟨_, known2 ++ [(r', b2)], _, _, rfl, ex4.new hd0, ⟨by rw [List.map_append, List.map_append, K4.k]; rfl, su_same, fun x hx => by
            have hx2 : x.2 ≠ d ∧ ∃ p, Rch w dss s0 p x.1 ∧ S4 x.2 = some (.lst (p.map .int)) := by
              rcases List.mem_append.mp hx with hx | hx
              · exact K4.p x hx
              · simp at hx; subst hx
                exact ⟨b2d, _, hpr.snoc hmem, hb4⟩
            obtain ⟨h1, p, h2, h3⟩ := hx2
            exact ⟨h1, p, h2, by rw [su_ne h1]; exact h3⟩⟩, B4, by rw [List.getElem?_append_left (List.getElem?_eq_some_iff.mp ha3).1]; exact ha3, fun p hp => by
            rcases hc p hp with z | z
            · rcases List.mem_cons.mp z with rfl | z
              · exact .inr (by rw [List.map_append]; exact List.mem_append_right _ (by simp))
              · exact .inl z
            · exact .inr (by rw [List.map_append]; exact List.mem_append_left _ z)⟩
        rw [List.map_append, List.map_append] at this
        rw [← ed] at this
        exact this
      · have hn : r' ∈ led2.map Prod.fst := by simpa using hb2
        exact hk2 _ _ ⟨led2, known2, _, _, rfl, ex3, K3, B3, ha3, fun p hp => by
          rcases hc p hp with z | z
          · rcases List.mem_cons.mp z with rfl | z
            · exact .inr hn
            · exact .inl z
          · exact .inr z⟩
  · have hb : ¬ (at_ : Int) < (((led.map Prod.fst).map rowD).length : Int) := of_decide_eq_false hb
    rw [List.length_map, List.length_map] at hb
    have e : at_ = led.length := by have := B.le; omega
    subst e
    exact ⟨_, rfl, q d led known S' ex hd0 K B⟩
end
end LW

/-! W5: all_done, stuck. -/
namespace LW
open PySem L2 PySem.Spec PyProof.Rows DL
theorem su_back {S : Hs} {a : Addr} {o u : O} (h : S a = some o) : su (su S a u) a o = S := by
  funext b
  by_cases z : b = a
  · subst z; rw [su_same, h]
  · rw [su_ne z, su_ne z]
theorem eqBs_e : ∀ (l : List D), eqBs l [] = l.isEmpty
  | [] => rfl
  | _ :: _ => rfl
theorem forL_mapE {α : Type} {tg : Tg} {ok : SK2} {body : SK2 → SK2} {nx : SK2} (f : α → D) (xs : List α) {items : List D} (e : items = xs.map f) (I : List α → SK2) (hok : ∀ l σ S, I l σ S → ok σ S) (hend : ∀ σ S, I [] σ S → nx σ S)
    (step : ∀ x rest, x ∈ xs → (∃ pre, xs = pre ++ x :: rest) → ∀ (k : SK2) σ S, (∀ σ S, I rest σ S → k σ S) → I (x :: rest) σ S → bindT tg (f x) σ fun σ' => body k σ' S) : ∀ σ S, I xs σ S → forL tg ok body nx items σ S := by
  subst e
  exact forL_map f I hok hend step
section
variable {T : Tbl} {S : Hs} {a nb w nw : Int} {dss : List (List Deed)} {s0 : List Int} {Q : VK2}
theorem Bfs.idx {led : List (Rw × Ent)} {n : Nat} (B : Bfs w dss s0 led n) {r : Rw} (h : r ∈ led.map Prod.fst) : ∃ (i : Nat) (e : Ent), led[i]? = some (r, e) := by
  obtain ⟨⟨r', e⟩, hm, rfl⟩ := List.mem_map.mp h
  obtain ⟨i, hi, e1⟩ := List.mem_iff_getElem.mp hm
  exact ⟨i, e, by rw [List.getElem?_eq_getElem hi, e1]⟩
theorem Rch.len7 (hD : Dss nb w nw dss) {p : List Int} {r : Rw} (h : Rch w dss s0 p r) : p.length ≤ 7 := nodup_le 7 _ h.perm.2.1 fun x hx => by have := h.perm.2.2.1 x hx; have := hD.l; omega
/-- a heap behind a lock and a list of its own -/
theorem ext_lock {S1 : Hs} {d l : Addr} {u o x : O} (hd : S1 d = some o) (hl : (su S1 d u) l = none) (ex : Ext S S1) (hd0 : S d = none) : l ≠ d ∧ S l = none ∧ Ext S (su (su (su S1 d u) l x) d o) ∧ (su (su (su S1 d u) l x) d o) l = some x ∧ (su (su S1 d u) l x) d = some u := by
  have ld : l ≠ d := fun e => by subst e; rw [su_same] at hl; cases hl
  have hl1 : S1 l = none := by rw [su_ne ld] at hl; exact hl
  refine ⟨ld, ex.none hl1, fun b y e => ?_, by rw [su_ne ld, su_same], by rw [su_ne ld.symm, su_same]⟩
  have bd : b ≠ d := fun z => by subst z; rw [hd0] at e; cases e
  have bl : b ≠ l := fun z => by subst z; rw [ex.none hl1] at e; cases e
  rw [su_ne bd, su_ne bl, su_ne bd]
  exact ex _ _ e
theorem all_done_ok (h329 : T.fn 329 = some f_next_rows) (h330 : T.fn 330 = some f_order_to_2) (h331 : T.fn 331 = some f_all_rows) (hT : T.fn 332 = some f_all_done) (n : Nat) (ca : AloneC (cal T n) 43 a nb w nw) (hD : Dss nb w nw dss) (hs : (s0.length : Int) = nb)
    (q1 : ∀ p r l S', Ext S S' → S l = none → Rch w dss s0 p r → r.1.length = dss.length → S' l = some (.lst (p.map .int)) → Q (.d (.tup [.str [97, 108, 108], .ref l])) S')
    (q2 : ∀ (rows : List Rw) (l : Addr) (S' : Hs), Ext S S' → S l = none → (∀ p r, Rch w dss s0 p r → r.1.length ≠ dss.length) → S' l = some (.lst (rows.map rowD)) → (∀ r, r ∈ rows ↔ ∃ p, Rch w dss s0 p r) → rows.Nodup → rows.length ≤ 2097152 → Q (.d (.tup [.str [110, 101, 118, 101, 114], .ref l])) S') :
    cal T (n + 3) 332 [.d (.tup [.int a, .int w]), .d (.tup (s0.map .int)), .bw (dss.map dD)] S Q := by
  refine ⟨_, hT, rfl, rfl, ?_⟩
  have c331 := fun Q q => all_rows_ok h329 h331 n ca hD hs (S := S) (Q := Q) q
  have c330 := fun (S : Hs) led d h ns i r e Q L hl hd hi q => order_to_ok (w := w) (dss := dss) (s0 := s0) h330 (n + 1) (led := led) (d := d) (h := h) (ns := ns) (S := S) (Q := Q) (i := i) (r := r) (e := e) L hl hd hi q
  generalize cal T (n + 2) = c at c331 c330 ⊢
  refine ⟨_, rfl, ⟨_, rfl, ⟨_, rfl, c331 _ fun d led S1 ex hd0 hd B => ?_⟩⟩⟩
  have few := B.L.few hD.l
  refine ⟨d, _, hd, fun h ns => ?_⟩
  refine ⟨_, rfl, ⟨_, _, _, _, rfl, su_same, ?_⟩⟩
  refine forL_mapE rowD (led.map Prod.fst) (encR_keys entD led) (fun rest σ S' => S' = su S1 d (.fdn (encR entD led) h ns) ∧ (∃ s4, σ = [some (.d (.tup [.int a, .int w])), some (.d (.tup (s0.map .int))), some (.bw (dss.map dD)), some (.d (.ref d)), s4]) ∧ ∀ r ∈ led.map Prod.fst, r.1.length = dss.length → r ∈ rest)
    (fun _ _ _ i => by rw [i.1]; exact su_same) ?_ ?_ _ _ ⟨rfl, ⟨_, rfl⟩, fun r hr _ => hr⟩
  · rintro σ S' ⟨rfl, ⟨s4, rfl⟩, hno⟩
    refine ⟨su_same, ?_⟩
    rw [su_back hd]
    refine ⟨_, rfl, ⟨_, hd, ⟨_, rfl, ?_⟩⟩⟩
    refine one1_i fun l hl => ?_
    refine ⟨_, rfl, (show 2 ≤ sizeLine by decide), ?_⟩
    have := q2 (led.map Prod.fst) l (su S1 l (.lst ((encR entD led).map Prod.fst))) (ex.new (ex.none hl)) (ex.none hl) (fun p r hp e => by have := hno r (B.all (Nat.le_refl _) hp) e; cases this) (by rw [su_same, encR_keys]) (fun r => ⟨B.L.key, fun ⟨p, hp⟩ => B.all (Nat.le_refl _) hp⟩) B.L.nd (by simpa using few)
    exact this
  · rintro r rest hr _ k σ S' hk ⟨rfl, ⟨s4, rfl⟩, hno⟩
    obtain ⟨i, e, hi⟩ := B.idx hr
    refine ⟨_, rfl, ⟨_, rfl, ⟨_, rfl, ⟨_, rfl, ⟨_, rfl, ⟨rfl, rfl, ?_⟩⟩⟩⟩⟩⟩
    have eb : eqB (.int ((r.1.map D.int).length : Nat)) (.int ((dss.map dD).length : Nat)) = decide (r.1.length = dss.length) := by
      show decide _ = _
      rw [List.length_map, List.length_map]
      by_cases z : r.1.length = dss.length
      · rw [decide_eq_true z, z]; simp
      · rw [decide_eq_false z]; simp; omega
    show Br (eqB (.int ((r.1.map D.int).length : Nat)) (.int ((dss.map dD).length : Nat))) _ _
    rw [eb]
    refine Br.mk (fun hb => ?_) (fun hb => ?_)
    · have hb := of_decide_eq_true hb
      refine ⟨_, rfl, ⟨_, rfl, c330 _ led d h ns i r e _ B.L few su_same hi fun p hp => ?_⟩⟩
      refine one1_i fun l hl => ?_
      obtain ⟨g1, g2, g3, g4, g5⟩ := ext_lock (x := .lst (p.map .int)) hd hl ex hd0
      refine ⟨_, rfl, (show 2 ≤ sizeLine by decide), ?_⟩
      exact ⟨g5, q1 p r l _ g3 g2 hp hb g4⟩
    · have hb := of_decide_eq_false hb
      refine hk _ _ ⟨rfl, ⟨_, rfl⟩, fun r' h1 h2 => ?_⟩
      rcases List.mem_cons.mp (hno r' h1 h2) with e | e
      · subst e; exact (hb h2).elim
      · exact e
end
end LW

/-! W6: what the laws about rows of dealings draw. -/
namespace LW
open PySem L2 PySem.Spec PyProof.Rows DL
local macro_rules | `(tactic| walk_at "s1") => `(tactic| first | with_reducible refine one1_i ?_ | with_reducible refine storD ?_ | with_reducible refine storVl ?_ | with_reducible refine bxD ?_ | refine ⟨_, rfl, ?_⟩ | refine ⟨_, by assumption, ?_⟩ | refine ⟨rfl, ?_⟩ | refine ⟨.inl rfl, ?_⟩ | refine ⟨Nat.le_of_ble_eq_true rfl, ?_⟩)
local macro_rules | `(tactic| walk_at "go") => `(tactic| (walk_at "s1"; repeat ((fail_if_success with_reducible refine isS ?_); walk_at "s1")))
local macro_rules | `(tactic| walk_at "run") => `(tactic| repeat walk_at "s1")
structure GdT (T : Tbl) : Prop where
  h4 : T.fn 4 = some f_law_pen
  h5 : T.fn 5 = some f_law_take
  h6 : T.fn 6 = some f_law_world
  h23 : T.fn 23 = some f_law_size
  h24 : T.fn 24 = some f_law_plain_deed
  h25 : T.fn 25 = some f_law_dealing
  h333 : T.fn 333 = some f_law_keen
  h334 : T.fn 334 = some f_law_some_dealings
  h335 : T.fn 335 = some f_law_few_state
section
variable {T : Tbl} {S : Hs} {p q : Addr} {ns : List Int} {k r a b : Int} {Q : VK2}
theorem few_state_ok (G : GdT T) (n : Nat) (h : PenAt S p q ns k r) (a1 : 1 ≤ a) (a6 : a ≤ 6) (b2 : 2 ≤ b) (b3 : b ≤ 1000)
    (w : ∀ (ss : List Int) (k' r' : Int), (ss.length : Int) = a → 0 ≤ k' → 0 ≤ r' → Q (.d (.tup (ss.map .int))) (su S p (.lst [.ref q, .int k', .int r']))) : cal T (n + 2) 335 [.d (.ref p), .d (.tup [.int a, .int b])] S Q := by
  refine ⟨_, G.h335, rfl, rfl, ?_⟩
  have ht := fun (S : Hs) (k r m : Int) Q (h : PenAt S p q ns k r) => take_ok G.h5 n (m := m) (Q := Q) h
  generalize cal T (n + 1) = c at ht ⊢
  refine ⟨_, rfl, ⟨_, rfl, ⟨_, rfl, by omega, by omega, ?_⟩⟩⟩
  refine compL_inv (fun acc S' => ∃ ss k r, acc = List.map D.int ss ∧ S' = su S p (.lst [.ref q, .int k, .int r]) ∧ 0 ≤ k ∧ 0 ≤ r) a.toNat (fun _ _ _ => trivial) (by rw [sizeLine_eq]; omega) ?_ _ ?_ [] S (by simp [rngD_len]) ⟨[], k, r, rfl, (su_pen h).symm, h.hk, h.hr⟩
  · rintro acc S' hl ⟨ss, k', r', rfl, rfl, k0, r0⟩
    exact ⟨_, rfl, w ss k' r' (by rw [List.length_map] at hl; omega) k0 r0⟩
  · rintro x _ acc S' ⟨ss, k', r', rfl, rfl, k0, r0⟩ P1 P2 hP
    refine Br.mk (fun _ => ?_) (fun z => by cases z)
    refine ⟨_, rfl, ⟨_, rfl, ⟨_, rfl, ⟨_, rfl, (show 2 ≤ sizeLine by decide), ?_⟩⟩⟩⟩
    refine ⟨_, rfl, ht _ _ _ _ _ (h.up k0 r0) (by decide) (by decide) fun f k1 r1 f0 f1 k10 r10 => ?_⟩
    rw [su_su]
    refine ⟨rfl, rfl, ?_⟩
    have key : ∃ (y : Int), getI [D.int 2, D.int b] (if eqB (.int f) (.int 0) = true then 1 else 0 : Int) = some (.int y) ∧ 2 ≤ y ∧ y ≤ 1000 := by
      by_cases z : eqB (.int f) (.int 0) = true
      · rw [if_pos z]; exact ⟨b, rfl, b2, b3⟩
      · rw [if_neg z]; exact ⟨2, rfl, by decide, by decide⟩
    obtain ⟨y, hy, y2, y3⟩ := key
    refine ⟨_, hy, ?_⟩
    refine ht _ _ _ _ _ (h.up k10 r10) (by omega) (Nat.lt_of_le_of_lt (Nat.log2_le_self _) (by omega)) fun s k2 r2 s0 s1 k20 r20 => ?_
    rw [su_su]
    exact hP _ _ ⟨ss ++ [s], k2, r2, by simp, rfl, k20, r20⟩
theorem keen_ok (G : GdT T) (n : Nat) (h : PenAt S p q ns k r) (a1 : 1 ≤ a) (a6 : a ≤ 6) (b2 : 2 ≤ b)
    (w : ∀ (ds : List Deed) (k' r' : Int), okDeeds a b ds → deps ds ≤ 2 → ds.length ≤ 12 → 0 ≤ k' → 0 ≤ r' → Q (.d (.tup (encs ds))) (su S p (.lst [.ref q, .int k', .int r']))) : cal T (n + 2) 333 [.d (.ref p), .d (.tup [.int a, .int b])] S Q := by
  refine ⟨_, G.h333, rfl, rfl, ?_⟩
  have ht := fun (S : Hs) (k r m : Int) Q (h : PenAt S p q ns k r) => take_ok G.h5 n (m := m) (Q := Q) h
  generalize cal T (n + 1) = c at ht ⊢
  have la : a.natAbs.log2 < 9000 := Nat.lt_of_le_of_lt (Nat.log2_le_self _) (by omega)
  refine ⟨_, rfl, ⟨_, rfl, ⟨_, rfl, ht _ _ _ _ _ h (by omega) la fun box k1 r1 x0 x1 k10 r10 => ?_⟩⟩⟩
  refine ⟨_, rfl, ?_⟩
  refine ⟨_, rfl, ⟨_, rfl, ⟨_, rfl, ht _ _ _ _ _ (h.up k10 r10) (by omega) la fun there k2 r2 t0 t1 k20 r20 => ?_⟩⟩⟩
  rw [su_su]
  refine ⟨_, rfl, ?_⟩
  refine ⟨_, rfl, ht _ _ _ _ _ (h.up k20 r20) (by decide) (by decide) fun way k3 r3 w0 w1 k30 r30 => ?_⟩
  rw [su_su]
  -- the guard
  have fin : ∀ (gd : List Deed) (s6 : Option Vx), okDeeds a b gd → deps gd ≤ 2 → gd.length ≤ 10 → wpS T c (.seq (.set 7 (.o2 .idx (.lst (.consb (.v 2) (.consb (.v 3) .nil))) (.call 5 (.cons (.v 0) (.cons (.i 2) .nil))))) (.seq (.box 7) (.ret (.o2 .add (.v 5) (.tup (.consb (.tup (.consb (.s [115, 101, 116]) (.consb (.i 3) (.consb (.call 5 (.cons (.v 0) (.cons (.i 2) .nil))) .nil)))) (.consb (.tup (.consb (.s [112, 117, 116]) (.consb (.v 7) (.consb (.i 3) .nil)))) .nil)))))))
      [some (.d (.ref p)), some (.d (.tup [.int a, .int b])), some (.d (.int box)), some (.d (.int there)), some (.d (.int way)), some (.d (.tup (encs gd))), s6, none] (su S p (.lst [.ref q, .int k3, .int r3])) (fun _ S' => Q (.d .non) S') Q (fun _ _ => False) (fun _ _ => False) := fun gd s6 okg dpg lng => by
    refine ⟨_, rfl, ⟨_, rfl, ⟨_, rfl, (show 2 ≤ sizeLine by decide), ?_⟩⟩⟩
    refine ⟨_, rfl, ht _ _ _ _ _ (h.up k30 r30) (by decide) (by decide) fun f k4 r4 f0 f1 k40 r40 => ?_⟩
    rw [su_su]
    have key : ∃ (y : Int), getI [D.int box, D.int there] f = some (.int y) ∧ 0 ≤ y ∧ y < a := by
      have : f = 0 ∨ f = 1 := by omega
      rcases this with rfl | rfl
      · exact ⟨box, rfl, x0, x1⟩
      · exact ⟨there, rfl, t0, t1⟩
    obtain ⟨goal, hy, y2, y3⟩ := key
    refine ⟨_, hy, ?_⟩
    refine one1_i ?_
    refine ⟨_, rfl, ?_⟩
    refine ⟨_, rfl, ⟨_, rfl, ht _ _ _ _ _ (h.up k40 r40) (by decide) (by decide) fun x k5 r5 z0 z1 k50 r50 => ?_⟩⟩
    rw [su_su]
    refine ⟨_, rfl, (show 3 ≤ sizeLine by decide), ?_⟩
    refine ⟨_, rfl, ⟨_, rfl, (show 3 ≤ sizeLine by decide), ?_⟩⟩
    refine ⟨_, rfl, (show 2 ≤ sizeLine by decide), ?_⟩
    refine ⟨by rw [encs_length, sizeLine_eq]; show gd.length + 2 ≤ _; omega, ?_⟩
    have e := encs_append gd [.set 3 x, .put goal 3]
    have := w (gd ++ [.set 3 x, .put goal 3]) k5 r5 (okDeeds_append okg ⟨by unfold okDeed; exact ⟨by decide, by decide, z0, by omega⟩, by unfold okDeed; exact ⟨by decide, by decide, y2, y3⟩, trivial⟩) (by rw [deps_append]; exact Nat.max_le.mpr ⟨dpg, (show deps _ ≤ 2 from Nat.zero_le 2)⟩) (by simp; omega) k50 r50
    rw [e] at this
    exact this
  walk_at "go"
  walk_at "go"
  refine ⟨_, rfl, ⟨rfl, rfl, Br.mk (fun hw => ?_) (fun hw => ?_)⟩⟩
  · have e0 : way = 0 := of_decide_eq_true hw
    subst e0
    walk_at "go"
    refine ⟨_, rfl, ⟨rfl, rfl, Br.ff ?_⟩⟩
    refine fin [.look 0 box, .set 1 1, .leap 0 1, .leap 2 1, .wait] _ ?_ (Nat.le_of_ble_eq_true rfl) (Nat.le_of_ble_eq_true rfl)
    refine ⟨?_, ?_, ?_, ?_, ?_, trivial⟩ <;> unfold okDeed
    · exact ⟨by decide, by decide, x0, x1⟩
    · exact ⟨by decide, by decide, by decide, by omega⟩
    · decide
    · decide
    · trivial
  · refine ⟨_, rfl, ⟨rfl, rfl, Br.mk (fun hw => ?_) (fun hw => ?_)⟩⟩
    · walk_at "go"
      walk_at "go"
      refine fin [.look 0 box, .try_ [.leap 0 1, .leap 2 1, .wait] [.look 0 there, .leap 0 1, .wait]] _ ?_ (Nat.le_of_ble_eq_true rfl) (Nat.le_of_ble_eq_true rfl)
      have o1 : okDeeds a b [.leap 0 1, .leap 2 1, .wait] := by
        refine ⟨?_, ?_, ?_, trivial⟩ <;> unfold okDeed
        · decide
        · decide
        · trivial
      have o2 : okDeeds a b [.look 0 there, .leap 0 1, .wait] := by
        refine ⟨?_, ?_, ?_, trivial⟩ <;> unfold okDeed
        · exact ⟨by decide, by decide, t0, t1⟩
        · decide
        · trivial
      refine ⟨?_, ?_, trivial⟩ <;> unfold okDeed
      · exact ⟨by decide, by decide, x0, x1⟩
      · exact ⟨⟨o1, Nat.le_of_ble_eq_true rfl⟩, o2, Nat.le_of_ble_eq_true rfl⟩
    · refine fin [.look 0 box, .leap 0 1, .wait] _ ?_ (Nat.le_of_ble_eq_true rfl) (Nat.le_of_ble_eq_true rfl)
      refine ⟨?_, ?_, ?_, trivial⟩ <;> unfold okDeed
      · exact ⟨by decide, by decide, x0, x1⟩
      · decide
      · trivial
theorem some_dealings_ok (G : GdT T) (n : Nat) (h : PenAt S p q ns k r) (a1 : 1 ≤ a) (a6 : a ≤ 6) (b2 : 2 ≤ b) (b3 : b ≤ 1000) {most : Int} (m1 : 1 ≤ most) (m7 : most ≤ 7)
    (w : ∀ (dss : List (List Deed)) (k' r' : Int), (dss.length : Int) ≤ most → (∀ ds ∈ dss, deps ds ≤ 2 ∧ okDeeds a b ds ∧ ds.length ≤ 1000) → 0 ≤ k' → 0 ≤ r' → Q (.vl (dss.map dD)) (su S p (.lst [.ref q, .int k', .int r']))) : cal T (n + 7) 334 [.d (.ref p), .d (.tup [.int a, .int b]), .d (.int most)] S Q := by
  refine ⟨_, G.h334, rfl, rfl, ?_⟩
  have ht := fun (S : Hs) (k r m : Int) Q (h : PenAt S p q ns k r) => take_ok G.h5 (n + 5) (m := m) (Q := Q) h
  have c25 : ∀ S k r room Q, PenAt S p q ns k r → 0 ≤ room → room ≤ 1000 → (∀ (ds : List Deed) (k' r' : Int), (sizes ds : Int) ≤ room → ds.length ≤ 12 → okDeeds a b ds → deps ds ≤ 2 → 0 ≤ k' → 0 ≤ r' → Q (.d (.tup (encs ds))) (su S p (.lst [.ref q, .int k', .int r']))) →
      cal T (n + 6) 25 [.d (.ref p), .d (.tup [.int a, .int b]), .d (.int room), .d (.int ((2 : Nat) : Int))] S Q := fun S k r room Q h r0 r1 w =>
    lev (by omega) (dealing_ok G.h5 G.h23 G.h24 G.h25 (p := p) (q := q) (ns := ns) (a := a) (b := b) a1 a6 b2 b3 2 n S k r room Q h r0 r1 w)
  have c333 := fun (S : Hs) k r Q (h : PenAt S p q ns k r) w => keen_ok G (n + 4) (S := S) (k := k) (r := r) (Q := Q) h a1 a6 b2 w
  generalize cal T (n + 6) = c at ht c25 c333 ⊢
  refine ⟨_, rfl, (show 0 ≤ sizeLine by decide), ?_⟩
  refine ⟨_, rfl, ⟨_, rfl, ht _ _ _ _ _ h (by omega) (Nat.lt_of_le_of_lt (Nat.log2_le_self _) (by omega)) fun f k1 r1 f0 f1 k10 r10 => ?_⟩⟩
  have h1 := h.up k10 r10
  refine ⟨_, rfl, ⟨_, rfl, by omega, by omega, ?_⟩⟩
  have loop : ∀ (many : Int), many = 1 + f → True := fun _ _ => trivial
  refine forL_pre (fun pre σ S' => ∃ dss k r s5, σ = [some (.d (.ref p)), some (.d (.tup [.int a, .int b])), some (.d (.int most)), some (.vl (dss.map dD)), some (.d (.int (1 + f))), s5] ∧ dss.length = pre.length ∧ (∀ ds ∈ dss, deps ds ≤ 2 ∧ okDeeds a b ds ∧ ds.length ≤ 1000) ∧ S' = su S p (.lst [.ref q, .int k, .int r]) ∧ 0 ≤ k ∧ 0 ≤ r)
    (fun _ _ _ _ => trivial) ?_ ?_ _ _ ⟨[], k1, r1, _, rfl, rfl, fun ds h => (by cases h), rfl, k10, r10⟩
  · rintro σ S' ⟨dss, k2, r2, s5, rfl, hl, hok, rfl, k20, r20⟩
    rw [rngD_len] at hl
    exact ⟨_, rfl, w dss k2 r2 (by omega) hok k20 r20⟩
  · rintro pre x post he kk σ S' hk ⟨dss, k2, r2, s5, rfl, hl, hok, rfl, k20, r20⟩
    have lp : pre.length < 7 := by
      have := congrArg List.length he
      rw [rngD_len] at this
      simp at this; omega
    have push : ∀ (ds : List Deed) (k' r' : Int) , deps ds ≤ 2 ∧ okDeeds a b ds ∧ ds.length ≤ 1000 → 0 ≤ k' → 0 ≤ r' → kk [some (.d (.ref p)), some (.d (.tup [.int a, .int b])), some (.d (.int most)), some (.vl (dss.map dD ++ [dD ds])), some (.d (.int (1 + f))), some (.d x)] (su S p (.lst [.ref q, .int k', .int r'])) := fun ds k' r' hd k0 r0 => by
      have := hk [some (.d (.ref p)), some (.d (.tup [.int a, .int b])), some (.d (.int most)), some (.vl ((dss ++ [ds]).map dD)), some (.d (.int (1 + f))), some (.d x)] (su S p (.lst [.ref q, .int k', .int r']))
        ⟨dss ++ [ds], k', r', _, rfl, by simp [hl], fun e he => (List.mem_append.mp he).elim (hok e) fun z => by simp at z; subst z; exact hd, rfl, k0, r0⟩
      rw [List.map_append] at this
      exact this
    have ll : (dss.map dD).length < sizeLine := by rw [List.length_map, sizeLine_eq]; omega
    have keen : ∀ k2 r2, 0 ≤ k2 → 0 ≤ r2 → ∀ rt bk, wpS T c (.om .append 3 (.consb (.call 333 (.cons (.v 0) (.cons (.v 1) .nil))) .nil) none) [some (.d (.ref p)), some (.d (.tup [.int a, .int b])), some (.d (.int most)), some (.vl (dss.map dD)), some (.d (.int (1 + f))), some (.d x)] (su S p (.lst [.ref q, .int k2, .int r2])) kk rt bk kk := fun k2 r2 k20 r20 rt bk => by
      refine ⟨_, rfl, ⟨_, rfl, ⟨_, rfl, c333 _ _ _ _ (h.up k20 r20) fun ds k3 r3 o d l k30 r30 => ?_⟩⟩⟩
      rw [su_su]
      exact ⟨ll, push ds k3 r3 ⟨d, o, by omega⟩ k30 r30⟩
    refine ⟨_, rfl, Br.mk (fun hb => ?_) (fun hb => Br.ff (keen _ _ k20 r20 _ _))⟩
    refine ⟨_, rfl, ht _ _ _ _ _ (h.up k20 r20) (by decide) (by decide) fun g k3 r3 g0 g1 k30 r30 => ?_⟩
    rw [su_su]
    refine ⟨rfl, rfl, Br.mk (fun hg => ?_) (fun hg => keen _ _ k30 r30 _ _)⟩
    refine ⟨_, rfl, ⟨_, rfl, ⟨_, rfl, c25 _ _ _ _ _ (h.up k30 r30) (by decide) (by decide) fun ds k4 r4 sz l o d k40 r40 => ?_⟩⟩⟩
    rw [su_su]
    exact ⟨ll, push ds k4 r4 ⟨d, o, by omega⟩ k40 r40⟩
end
end LW

/-! W7: an order gone along; k54. -/
namespace LW
open PySem L2 PySem.Spec PyProof.Rows DL
theorem compL_fmW {α : Type} {tg : Tg} {ok : Sl → Hs → Prop} {elt : Sl → Hs → (D → Hs → Prop) → Prop} {tst : Sl → Hs → (Bool → Hs → Prop) → Prop} {σ : Sl} {K : List D → Hs → Prop} (f : α → D) (g : α → Option D) {S : Hs} (hok : ok σ S) :
    ∀ (xs : List α) (acc : List D), (∀ x ∈ xs, ∀ (P1 : D → Hs → Prop) (P2 : Hs → Prop), (∀ y, g x = some y → P1 y S) → (g x = none → P2 S) → bindT tg (f x) σ fun σ' => tst σ' S fun b S1 => Br b (elt σ' S1 P1) (P2 S1)) → acc.length + xs.length ≤ sizeLine → K (acc ++ xs.filterMap g) S → compL tg ok elt tst σ (xs.map f) acc S K
  | [], acc, _, _, k => ⟨hok, by simpa using k⟩
  | x :: xs, acc, h, hl, k => by
    have hl' : acc.length + xs.length + 1 ≤ sizeLine := by simpa [Nat.add_assoc] using hl
    refine ⟨hok, h x List.mem_cons_self _ _ (fun y e => ⟨by omega, ?_⟩) (fun e => ?_)⟩
    · refine compL_fmW f g hok xs (acc ++ [y]) (fun z hz => h z (List.mem_cons_of_mem _ hz)) (by simp; omega) ?_
      rw [List.filterMap_cons, e] at k
      simpa using k
    · refine compL_fmW f g hok xs acc (fun z hz => h z (List.mem_cons_of_mem _ hz)) (by omega) ?_
      rw [List.filterMap_cons, e] at k
      exact k
theorem compL_fmE {α : Type} {tg : Tg} {ok : Sl → Hs → Prop} {elt : Sl → Hs → (D → Hs → Prop) → Prop} {tst : Sl → Hs → (Bool → Hs → Prop) → Prop} {σ : Sl} {K : List D → Hs → Prop} (f : α → D) (g : α → Option D) {S : Hs} {items : List D} (xs : List α) (e : items = xs.map f) (hok : ok σ S)
    (h : ∀ x ∈ xs, ∀ (P1 : D → Hs → Prop) (P2 : Hs → Prop), (∀ y, g x = some y → P1 y S) → (g x = none → P2 S) → bindT tg (f x) σ fun σ' => tst σ' S fun b S1 => Br b (elt σ' S1 P1) (P2 S1)) (hl : xs.length ≤ sizeLine) (k : K (xs.filterMap g) S) : compL tg ok elt tst σ items [] S K := by
  subst e
  exact compL_fmW f g hok xs [] h (by simpa using hl) (by simpa using k)
theorem inc_rng : ∀ (l : List Int) (m : Int), l.Pairwise (· < ·) → (∀ x ∈ l, m ≤ x ∧ x < m + (l.length : Int)) → l.map D.int = rngD m l.length
  | [], _, _, _ => rfl
  | x :: l, m, pw, h => by
    obtain ⟨p1, p2⟩ := List.pairwise_cons.mp pw
    have hx := h x List.mem_cons_self
    have ex : x = m := by
      by_cases z : x = m
      · exact z
      · exfalso
        have hn : ((x :: l).map fun y => y - (m + 1)).Nodup := by
          rw [List.nodup_iff_pairwise_ne, List.pairwise_map]
          exact pw.imp fun {a b} h => by omega
        have := nodup_le l.length _ hn fun y hy => by
          obtain ⟨z, hz, rfl⟩ := List.mem_map.mp hy
          have h1 := h z hz
          have h2 : x ≤ z := by
            rcases List.mem_cons.mp hz with rfl | hz
            · exact Int.le_refl _
            · have := p1 z hz; omega
          simp at h1
          omega
        simp at this
        omega
    subst ex
    show D.int x :: l.map D.int = D.int x :: rngD (x + 1) l.length
    rw [inc_rng l (x + 1) p2 fun y hy => by
      have h1 := h y (List.mem_cons_of_mem _ hy)
      have h2 := p1 y hy
      simp at h1
      omega]
theorem srt_all {p : List Int} {n : Nat} (nd : p.Nodup) (h : ∀ x ∈ p, 0 ≤ x ∧ x < (n : Int)) (hl : p.length = n) : (srt p).map D.int = rngD 0 n := by
  have hlen : (srt p).length = n := by rw [(srt_perm p).length_eq, hl]
  have pw : (srt p).Pairwise (· < ·) := by
    have h1 := srt_pw p
    have h2 : (srt p).Nodup := (srt_perm p).nodup_iff.mpr nd
    rw [List.nodup_iff_pairwise_ne] at h2
    exact (h1.and h2).imp fun {a b} h => by omega
  have := inc_rng (srt p) 0 pw fun x hx => by
    have := h x ((srt_perm p).mem_iff.mp hx)
    rw [hlen]; omega
  rw [this, hlen]
theorem plns_dss {nb w nw : Int} {dss : List (List Deed)} (h : ∀ ds ∈ dss, deps ds ≤ 2) : plns (dss.map dD) = true := by
  induction dss with
  | nil => rfl
  | cons ds l ih =>
    have h1 : pl 60 (dD ds) = true := by
      show pls 59 (encs ds) = true
      exact pls_le _ 59 _ (by have := h ds List.mem_cons_self; omega) (pls_encs ds)
    show (pl 60 (dD ds) && pls 60 (l.map dD)) = true
    have h2 : pls 60 (l.map dD) = true := ih fun ds hd => h ds (List.mem_cons_of_mem _ hd)
    rw [h1, h2]; rfl
section
variable {T : Tbl} {S : Hs} {a nb w nw : Int} {dss : List (List Deed)} {s0 : List Int} {Q : VK2}
theorem goes_along_ok (hT : T.fn 338 = some f_law_goes_along) (n : Nat) (ca : AloneC (cal T n) 46 a nb w nw) (hD : Dss nb w nw dss) (hs : (s0.length : Int) = nb) {p : List Int} {l : Addr} (hl : S l = some (.lst (p.map .int))) (hp : ∀ k ∈ p, 0 ≤ k ∧ k < dss.length) (hr : (runs w dss p s0).isSome = true)
    (q : ∀ S', Ext S S' → Q (.d (.bl true)) S') : cal T (n + 1) 338 [.d (.tup [.int a, .int w]), .bw (dss.map dD), .d (.tup (s0.map .int)), .d (.ref l)] S Q := by
  refine ⟨_, hT, rfl, rfl, ?_⟩
  generalize cal T n = c at ca ⊢
  refine ⟨_, rfl, ⟨_, hl, ?_⟩⟩
  refine forL_map D.int (fun rest σ S' => Ext S S' ∧ ∃ t s4 s5, σ = [some (.d (.tup [.int a, .int w])), some (.bw (dss.map dD)), some (.d (.tup (t.map .int))), some (.d (.ref l)), s4, s5] ∧ (runs w dss rest t).isSome = true ∧ (t.length : Int) = nb) (fun _ _ _ h => h.1 _ _ hl) ?_ ?_ _ _ ⟨Ext.refl, s0, _, _, rfl, hr, hs⟩
  · rintro σ S' ⟨ex, t, s4, s5, rfl, _, _⟩
    exact q _ ex
  · rintro k rest hk _ kk σ S' hkk ⟨ex, t, s4, s5, rfl, hrn, ht⟩
    obtain ⟨k0, k1⟩ := hp k hk
    obtain ⟨i, rfl⟩ := Int.eq_ofNat_of_zero_le k0
    have hi : i < dss.length := by omega
    have hget : (dss.map dD)[i]? = some (dD dss[i]) := by rw [List.getElem?_map, List.getElem?_eq_getElem hi]; rfl
    have hrn : ((stepR w t (dss.getD i [])).bind (runs w dss rest)).isSome = true := hrn
    rw [List.getD_eq_getElem?_getD, List.getElem?_eq_getElem hi] at hrn
    have hrn : ((stepR w t dss[i]).bind (runs w dss rest)).isSome = true := hrn
    obtain ⟨d1, d2, d3⟩ := hD.d dss[i] (List.getElem_mem hi)
    refine ⟨_, rfl, ⟨_, rfl, ⟨_, rfl, ⟨_, getI_nat hget, ⟨_, rfl, ca S' t dss[i] _ ht d1 d2 d3 ?_⟩⟩⟩⟩⟩
    intro S2 ex2
    unfold stepR at hrn
    split
    · rename_i hw
      rw [if_pos hw] at hrn
      cases hrn
    · rename_i hw
      rw [if_neg hw] at hrn
      refine ⟨_, rfl, ⟨_, rfl, ⟨rfl, rfl, Br.ff ?_⟩⟩⟩
      refine ⟨_, rfl, ⟨_, rfl, ?_⟩⟩
      refine hkk _ _ ⟨ex.trans ex2, nowS t (gos w t dss[i] 0 st0).2.puts, _, _, rfl, hrn, ?_⟩
      rw [← ht]
      unfold nowS
      simp
theorem is_row_ok (hT : T.fn 339 = some f_law_is_row_3) (n : Nat) {p : List Int} {l : Addr} (hl : S l = some (.lst (p.map .int))) (hz : p.length ≤ 1000)
    (q : Q (.d (.bl true)) S) : cal T (n + 1) 339 [.d (.ref l)] S Q := by
  refine ⟨_, hT, rfl, rfl, ?_⟩
  generalize cal T n = c
  refine ⟨_, rfl, ⟨_, hl, ?_⟩⟩
  refine compL_fmE D.int (fun _ => some (.bl true)) p rfl hl (fun z _ P1 P2 k1 k2 => ?_) (by rw [sizeLine_eq]; omega) ?_
  · refine Br.tt ⟨_, rfl, ⟨_, rfl, Br.tt ⟨_, rfl, ⟨_, rfl, k1 _ rfl⟩⟩⟩⟩
  have e : ∀ p : List Int, plns (p.filterMap fun _ => some (D.bl true)) = true ∧ ((p.filterMap fun _ => some (D.bl true)).any fun y => eqB y (.bl false)) = false := by
    intro p
    induction p with
    | nil => exact ⟨rfl, rfl⟩
    | cons x p ih => exact ⟨ih.1, ih.2⟩
  refine ⟨rfl, (e p).1, ?_⟩
  rw [(e p).2]
  exact q
end
end LW

/-! W8: k54. -/
namespace LW
open PySem L2 PySem.Spec PyProof.Rows DL
theorem PenAt.oth {S : Hs} {p q a : Addr} {ns : List Int} {k r : Int} {o : O} (h : PenAt S p q ns k r) (n1 : a ≠ p) (n2 : a ≠ q) : PenAt (su S a o) p q ns k r :=
  ⟨by rw [su_ne n1.symm]; exact h.hp, by rw [su_ne n2.symm]; exact h.hq, h.ne, h.hk, h.hr⟩
theorem PenAt.ap {S : Hs} {p q a : Addr} {ns : List Int} {k r : Int} (h : PenAt S p q ns k r) (n : S a = none) : a ≠ p := fun e => by subst e; rw [h.hp] at n; cases n
theorem PenAt.aq {S : Hs} {p q a : Addr} {ns : List Int} {k r : Int} (h : PenAt S p q ns k r) (n : S a = none) : a ≠ q := fun e => by subst e; rw [h.hq] at n; cases n
structure RowT (T : Tbl) : Prop where
  h329 : T.fn 329 = some f_next_rows
  h330 : T.fn 330 = some f_order_to_2
  h331 : T.fn 331 = some f_all_rows
  h336 : T.fn 336 = some f_law_next_3
  h337 : T.fn 337 = some f_law_rows
theorem isList {S : Hs} {l : Addr} {ds : List D} (h : S l = some (.lst ds)) : Ty.isD .list (.ref l) S = some true := by
  show (match S l with | some (.lst _) => some (decide (Ty.list = .list)) | some (.dic _) => some (decide (Ty.list = .dict)) | _ => none) = some true
  rw [h]; rfl
theorem law_ok54 {T : Tbl} (A : AlT T) (L : LwT T) (G : GdT T) (RT : RowT T) (h332 : T.fn 332 = some f_all_done) (h338 : T.fn 338 = some f_law_goes_along) (h339 : T.fn 339 = some f_law_is_row_3) (f : Nat) (hT : T.fn f = some f_law_50)
    (n : Nat) {ns : List Int} : cal T (n + 31) f [.fz (ns.map D.int)] (fun _ => none) fun r _ => r = .d (.bl true) := by
  refine ⟨_, hT, rfl, rfl, ?_⟩
  have c4 := fun Q => pen_ok G.h4 (n + 29) (ns := ns) (S := fun _ => none) (Q := Q)
  have c6 := fun S p q ns k r Q => world_ok G.h5 G.h6 (n + 28) (S := S) (p := p) (q := q) (ns := ns) (k := k) (r := r) (Q := Q)
  have c335 := fun S p q ns k r a b Q h a1 a6 b2 b3 w => few_state_ok G (n + 28) (S := S) (p := p) (q := q) (ns := ns) (k := k) (r := r) (a := a) (b := b) (Q := Q) h a1 a6 b2 b3 w
  have c334 := fun S p q ns k r a b most Q h a1 a6 b2 b3 m1 m7 w => some_dealings_ok G (n + 23) (S := S) (p := p) (q := q) (ns := ns) (k := k) (r := r) (a := a) (b := b) (most := most) (Q := Q) h a1 a6 b2 b3 m1 m7 w
  have c337 := fun S a w nb dss s0 Q (hD : Dss nb w w dss) hs q => lev (b := n + 30) (by omega) (law_rows_ok RT.h336 RT.h337 (n + 28) (lawAloneC L (n + 20) (a := a) hD.w0 hD.n6) hD hs (S := S) (s0 := s0) (Q := Q) q)
  have c332 := fun S a w nb dss s0 Q (hD : Dss nb w w dss) hs q1 q2 => lev (b := n + 30) (by omega) (all_done_ok RT.h329 RT.h330 RT.h331 h332 (n + 27) (aloneC A (n + 19) (a := a) hD.w0 hD.n6) hD hs (S := S) (s0 := s0) (Q := Q) q1 q2)
  have c338 := fun S a w nb dss s0 p l Q (hD : Dss nb w w dss) hs hl hp hr q => lev (b := n + 30) (by omega) (goes_along_ok h338 (n + 29) (lawAloneC L (n + 21) (a := a) hD.w0 hD.n6) hD hs (S := S) (s0 := s0) (p := p) (l := l) (Q := Q) hl hp hr q)
  have c339 := fun S p l Q hl hz q => is_row_ok h339 (n + 29) (S := S) (p := p) (l := l) (Q := Q) hl hz q
  generalize cal T (n + 30) = c at c4 c6 c335 c334 c337 c332 c338 c339 ⊢
  refine ⟨_, rfl, c4 _ fun q hq ns => ?_⟩
  refine ⟨_, rfl, fun p hp => ?_⟩
  have hne : q ≠ p := fun e => by subst e; rw [su_same] at hp; cases hp
  have h0 : PenAt (su (su (fun _ => none) q (.lst (ns.map .int))) p (.lst [.ref q, .int 0, .int 0])) p q ns 0 0 := ⟨su_same, by rw [su_ne hne]; exact su_same, hne, by decide, by decide⟩
  generalize su (su (fun _ => none) q (.lst (ns.map .int))) p (.lst [.ref q, .int 0, .int 0]) = S0 at h0 ⊢
  refine ⟨_, rfl, c6 _ _ _ _ _ _ _ h0 fun a b k1 r1 a1 a6 b2 b3 k10 r10 => ?_⟩
  have h1 := h0.up k10 r10
  generalize su S0 p (.lst [.ref q, .int k1, .int r1]) = S1 at h1 ⊢
  refine ⟨_, rfl, by decide, by decide, ?_⟩
  refine forL_inv (fun σ S => ∃ s0 s3 s4 s5 s6 s7 s8 s9 s10 k r, σ = [s0, some (.d (.ref p)), some (.d (.tup [.int a, .int b])), s3, s4, s5, s6, s7, s8, s9, s10] ∧ PenAt S p q ns k r) (fun _ _ _ => trivial) (fun σ S _ => rfl) _ ?_ _ _ ⟨_, _, _, _, _, _, _, _, _, _, _, rfl, h1⟩
  rintro x _ kk σ S hk ⟨s0, s3, s4, s5, s6, s7, s8, s9, s10, k, r, rfl, h⟩
  refine ⟨_, rfl, ⟨_, rfl, c335 _ _ _ _ _ _ _ _ _ h a1 a6 b2 b3 fun ss k2 r2 sl k20 r20 => ?_⟩⟩
  have h2 := h.up k20 r20
  generalize su S p (.lst [.ref q, .int k2, .int r2]) = S2 at h2 ⊢
  refine ⟨_, rfl, ⟨_, rfl, c334 _ _ _ _ _ _ _ _ 6 _ h2 a1 a6 b2 b3 (by decide) (by decide) fun dss k3 r3 dl dok k30 r30 => ?_⟩⟩
  have h3 := h2.up k30 r30
  generalize su S2 p (.lst [.ref q, .int k3, .int r3]) = S3 at h3 ⊢
  have hD : Dss a b b dss := ⟨by omega, a6, by omega, dok⟩
  have hn : dss.length ≤ 6 := by omega
  have pl := plns_dss (nb := a) (w := b) (nw := b) fun ds hd => (dok ds hd).1
  refine ⟨_, rfl, ⟨_, rfl, ⟨_, rfl, c337 _ _ _ _ _ _ _ hD sl fun d led known S4 ex4 hd0 K B => ?_⟩⟩⟩
  refine ⟨d, _, rfl, K.h, fun hh nn => ?_⟩
  refine ⟨d, _, hh, nn, rfl, su_same, ?_⟩
  refine compL_fmE rowD (fun r => if r.1.length = dss.length then some (rowD r) else none) (led.map Prod.fst) (by rw [encR_keys, K.k]) su_same (fun r hr P1 P2 k1 k2 => ?_) ?_ ?_
  · refine ⟨_, rfl, ⟨_, rfl, ⟨_, rfl, ⟨_, rfl, ⟨_, rfl, ⟨rfl, rfl, ?_⟩⟩⟩⟩⟩⟩
    have eb : eqB (.int ((r.1.map D.int).length : Nat)) (.int ((dss.map dD).length : Nat)) = decide (r.1.length = dss.length) := by
      show decide _ = _
      rw [List.length_map, List.length_map]
      by_cases z : r.1.length = dss.length
      · rw [decide_eq_true z, z]; simp
      · rw [decide_eq_false z]; simp; omega
    show Br (eqB (.int ((r.1.map D.int).length : Nat)) (.int ((dss.map dD).length : Nat))) _ _
    rw [eb]
    exact Br.mk (fun hb => ⟨_, rfl, k1 _ (if_pos (of_decide_eq_true hb))⟩) (fun hb => k2 (if_neg (of_decide_eq_false hb)))
  · have := B.L.few hD.l
    rw [List.length_map, sizeLine_eq]; omega
  obtain ⟨cb, hcb, hcan⟩ : ∃ cb : Bool, (!eqBs ((led.map Prod.fst).filterMap fun r => if r.1.length = dss.length then some (rowD r) else none) []) = cb ∧ (cb = true ↔ ∃ p r, Rch b dss ss p r ∧ r.1.length = dss.length) := by
    refine ⟨_, rfl, ?_⟩
    rw [eqBs_e]
    constructor
    · intro z
      have : ((led.map Prod.fst).filterMap fun r => if r.1.length = dss.length then some (rowD r) else none) ≠ [] := fun e => by rw [e] at z; cases z
      obtain ⟨y, hy⟩ := List.exists_mem_of_ne_nil _ this
      obtain ⟨r, hr, hry⟩ := List.mem_filterMap.mp hy
      obtain ⟨p, hp⟩ := B.L.key hr
      refine ⟨p, r, hp, ?_⟩
      by_cases z : r.1.length = dss.length
      · exact z
      · rw [if_neg z] at hry; cases hry
    · rintro ⟨p, r, hp, hr⟩
      have hm := B.all (Nat.le_refl _) hp
      have : rowD r ∈ ((led.map Prod.fst).filterMap fun r => if r.1.length = dss.length then some (rowD r) else none) := List.mem_filterMap.mpr ⟨r, hm, if_pos hr⟩
      cases e : ((led.map Prod.fst).filterMap fun r => if r.1.length = dss.length then some (rowD r) else none) with
      | nil => rw [e] at this; cases this
      | cons _ _ => rfl
  refine ⟨_, rfl, (show 0 ≤ sizeLine by decide), ⟨.inl rfl, ?_⟩⟩
  dsimp only
  rw [hcb]
  have pd : p ≠ d := fun e => by subst e; rw [h3.hp] at hd0; cases hd0
  have qd : q ≠ d := fun e => by subst e; rw [h3.hq] at hd0; cases hd0
  have h4 : PenAt (su S4 d (.fdn (encR D.ref known) hh nn)) p q ns k3 r3 := (h3.ext ex4).oth pd.symm qd.symm
  generalize su S4 d (.fdn (encR D.ref known) hh nn) = S5 at h4 ⊢
  refine ⟨_, rfl, ⟨_, rfl, ?_⟩⟩
  refine ⟨_, rfl, by decide, by decide, ?_⟩
  refine forL_inv (fun σ S => ∃ s7 s9 s10, σ = [s0, some (.d (.ref p)), some (.d (.tup [.int a, .int b])), some (.d x), some (.d (.tup (ss.map .int))), some (.vl (dss.map dD)), some (.d (.bl cb)), s7, some (.vl (dss.map dD)), s9, s10] ∧ PenAt S p q ns k3 r3) (fun _ _ _ => trivial) ?_ _ ?_ _ _ ⟨_, _, _, rfl, h4⟩
  · rintro σ S6 ⟨s7, s9, s10, rfl, h6⟩
    exact hk _ _ ⟨_, _, _, _, _, _, _, _, _, _, _, rfl, h6⟩
  rintro x2 _ k5 σ S6 hk5 ⟨s7, s9, s10, rfl, h6⟩
  refine ⟨_, rfl, ⟨_, rfl, ⟨_, rfl, c332 _ _ _ _ _ _ _ hD sl ?_ ?_⟩⟩⟩
  · intro pt r l S7 ex7 hl0 hp hr hl
    have e := hcan.mpr ⟨pt, r, hp, hr⟩
    subst e
    have h7 := h6.ext ex7
    obtain ⟨pp1, pp2, pp3, pp4⟩ := hp.perm
    have ptl : pt.length = dss.length := by rw [← hp.size]; exact hr
    refine ⟨_, rfl, ⟨_, rfl, Br.ff ?_⟩⟩
    refine ⟨_, rfl, ⟨_, rfl, ⟨rfl, rfl, Br.ff ?_⟩⟩⟩
    refine ⟨_, rfl, ⟨_, rfl, ⟨.inr ⟨pl, pl⟩, Br.of false (congrArg not (eqBs_refl 60 _ pl)) ?_⟩⟩⟩
    refine ⟨_, rfl, ⟨_, rfl, ⟨_, isList hl, Br.ff ?_⟩⟩⟩
    refine ⟨_, rfl, ⟨_, rfl, ⟨_, rfl, (show 2 ≤ sizeLine by decide), ⟨_, rfl, ⟨_, rfl, ⟨rfl, rfl, Br.ff ?_⟩⟩⟩⟩⟩⟩
    refine ⟨_, rfl, ⟨_, rfl, ⟨_, rfl, Br.ff ?_⟩⟩⟩
    refine ⟨_, rfl, Br.tt ?_⟩
    refine ⟨_, rfl, ⟨_, rfl, c339 _ pt l _ hl (by omega) (Br.ff ?_)⟩⟩
    refine ⟨_, rfl, ⟨_, rfl, ⟨_, hl, ⟨pt, .inl rfl, fun ns' pn pw => ?_⟩⟩⟩⟩
    rw [srt_eq pn pw]
    refine ⟨_, rfl, ⟨_, rfl, ⟨_, rfl, by rw [List.length_map]; omega, by rw [List.length_map]; omega, ?_⟩⟩⟩
    have esr : (srt pt).map D.int = rngD 0 ((dss.map dD).length : Int).toNat := by
      rw [Int.toNat_natCast, List.length_map]
      exact srt_all pp2 pp3 ptl
    have epl : plns ((srt pt).map D.int) = true := pls_ints 60 _
    rw [← esr]
    refine ⟨.inr ⟨epl, epl⟩, Br.of false (congrArg not (eqBs_refl 60 _ epl)) ?_⟩
    refine ⟨_, rfl, Br.tt ?_⟩
    refine ⟨_, rfl, ⟨_, rfl, ⟨_, rfl, ⟨_, rfl, ⟨_, rfl, c338 _ _ _ _ _ _ pt l _ hD sl hl pp3 (by rw [hp.runs]; rfl) fun S8 ex8 => Br.ff ?_⟩⟩⟩⟩⟩
    have hl8 := ex8 _ _ hl
    refine ⟨_, rfl, ⟨_, rfl, ⟨l, _, rfl, hl8, ⟨_, hl8, ⟨by rw [List.length_map, sizeLine_eq]; omega, ⟨_, rfl, ?_⟩⟩⟩⟩⟩⟩
    have lp : l ≠ p := h6.ap hl0
    have lq : l ≠ q := h6.aq hl0
    exact hk5 _ _ ⟨_, _, _, rfl, (h7.ext ex8).oth lp lq⟩
  · intro rows l S7 ex7 hl0 hno hl hrw hnd hfew
    have e : cb = false := by
      cases cb with
      | false => rfl
      | true => obtain ⟨pt, r, hp, hr⟩ := hcan.mp rfl; exact (hno pt r hp hr).elim
    subst e
    have h7 := h6.ext ex7
    refine ⟨_, rfl, ⟨_, rfl, Br.ff ?_⟩⟩
    refine ⟨_, rfl, ⟨_, rfl, ⟨rfl, rfl, Br.ff ?_⟩⟩⟩
    refine ⟨_, rfl, ⟨_, rfl, ⟨.inr ⟨pl, pl⟩, Br.of false (congrArg not (eqBs_refl 60 _ pl)) ?_⟩⟩⟩
    refine ⟨_, rfl, ⟨_, rfl, ⟨_, isList hl, Br.ff ?_⟩⟩⟩
    refine ⟨_, rfl, ⟨_, rfl, ⟨_, rfl, (show 2 ≤ sizeLine by decide), ⟨_, rfl, ⟨_, rfl, ⟨rfl, rfl, Br.ff ?_⟩⟩⟩⟩⟩⟩
    refine ⟨_, rfl, ⟨_, rfl, ⟨_, rfl, Br.ff ?_⟩⟩⟩
    refine ⟨_, rfl, Br.ff (Br.ff ?_)⟩
    refine ⟨_, rfl, Br.ff (Br.ff ?_)⟩
    refine ⟨_, rfl, ⟨_, rfl, ⟨l, _, rfl, hl, ⟨_, hl, ⟨by rw [List.length_map, sizeLine_eq]; omega, ⟨_, rfl, ?_⟩⟩⟩⟩⟩⟩
    have lp : l ≠ p := h6.ap hl0
    have lq : l ≠ q := h6.aq hl0
    exact hk5 _ _ ⟨_, _, _, rfl, h7.oth lp lq⟩
end LW

/-! W9: stuck; the law's fewest. -/
namespace LW
open PySem L2 PySem.Spec PyProof.Rows DL
def stuckB (w : Int) (dss : List (List Deed)) (r : Rw) : Bool := decide (r.1.length < dss.length) && (nxts w dss r).isEmpty
theorem nextD_emp (l : List (Int × Rw)) : eqBs (l.map nextD) [] = l.isEmpty := by cases l <;> rfl
theorem compL_flt {α : Type} {tg : Tg} {ok : Sl → Hs → Prop} {elt : Sl → Hs → (D → Hs → Prop) → Prop} {tst : Sl → Hs → (Bool → Hs → Prop) → Prop} {σ : Sl} {K : List D → Hs → Prop} (f g : α → D) (b : α → Bool) (J : Hs → Prop) (hok : ∀ S, J S → ok σ S) :
    ∀ (xs : List α) (acc : List D) (S : Hs), acc.length + xs.length ≤ sizeLine → (∀ x ∈ xs, ∀ S, J S → ∀ (P1 : D → Hs → Prop) (P2 : Hs → Prop), (b x = true → ∀ S', J S' → P1 (g x) S') → (b x = false → ∀ S', J S' → P2 S') → bindT tg (f x) σ fun σ' => tst σ' S fun c S1 => Br c (elt σ' S1 P1) (P2 S1)) → J S → (∀ S, J S → K (acc ++ (xs.filter b).map g) S) → compL tg ok elt tst σ (xs.map f) acc S K
  | [], acc, S, _, _, i, k => ⟨hok _ i, by have := k S i; simpa using this⟩
  | x :: xs, acc, S, hl, h, i, k => ⟨hok _ i, h x List.mem_cons_self S i _ _
      (fun hb S' i' => ⟨by simp at hl; omega, compL_flt f g b J hok xs (acc ++ [g x]) S' (by simp at hl ⊢; omega) (fun y hy => h y (List.mem_cons_of_mem _ hy)) i' fun S2 i2 => by
        have := k S2 i2
        rw [List.filter_cons, if_pos hb] at this
        simpa using this⟩)
      (fun hb S' i' => compL_flt f g b J hok xs acc S' (by simp at hl ⊢; omega) (fun y hy => h y (List.mem_cons_of_mem _ hy)) i' fun S2 i2 => by
        have := k S2 i2
        rw [List.filter_cons, if_neg (by rw [hb]; exact Bool.false_ne_true)] at this
        exact this)⟩
theorem compL_fltE {α : Type} {tg : Tg} {ok : Sl → Hs → Prop} {elt : Sl → Hs → (D → Hs → Prop) → Prop} {tst : Sl → Hs → (Bool → Hs → Prop) → Prop} {σ : Sl} {K : List D → Hs → Prop} (f g : α → D) (b : α → Bool) (J : Hs → Prop) (hok : ∀ S, J S → ok σ S)
    {items : List D} (xs : List α) (e : items = xs.map f) {S : Hs} (hl : xs.length ≤ sizeLine) (h : ∀ x ∈ xs, ∀ S, J S → ∀ (P1 : D → Hs → Prop) (P2 : Hs → Prop), (b x = true → ∀ S', J S' → P1 (g x) S') → (b x = false → ∀ S', J S' → P2 S') → bindT tg (f x) σ fun σ' => tst σ' S fun c S1 => Br c (elt σ' S1 P1) (P2 S1)) (i : J S) (k : ∀ S', J S' → K ((xs.filter b).map g) S') : compL tg ok elt tst σ items [] S K := by
  subst e
  exact compL_flt f g b J hok xs [] S (by simpa using hl) h i (by simpa using k)
section
variable {T : Tbl} {S : Hs} {a nb w nw : Int} {dss : List (List Deed)} {s0 : List Int} {Q : VK2}
theorem runs_app : ∀ (p q : List Int) (s : List Int), runs w dss (p ++ q) s = (runs w dss p s).bind (runs w dss q)
  | [], q, s => rfl
  | k :: p, q, s => by
    show (stepR w s _).bind (runs w dss (p ++ q)) = ((stepR w s _).bind (runs w dss p)).bind _
    cases stepR w s (dss.getD k.toNat []) with
    | none => rfl
    | some t => exact runs_app p q t
theorem lt_ints {i j : Nat} {P : Bool → Prop} (h : P (decide (i < j))) : P (decide ((i : Int) < (j : Int))) := by
  have e : decide ((i : Int) < (j : Int)) = decide (i < j) := by
    by_cases z : i < j
    · rw [decide_eq_true z]; exact decide_eq_true (by omega)
    · rw [decide_eq_false z]; exact decide_eq_false (by omega)
  rw [e]; exact h
theorem is_stuck_ok (h329 : T.fn 329 = some f_next_rows) (hT : T.fn 341 = some f_is_stuck) (n : Nat) (ca : AloneC (cal T n) 43 a nb w nw) (hD : Dss nb w nw dss) {r : Rw} (hs : (r.2.length : Int) = nb) (hr : r.1.length ≤ 10)
    (q : ∀ S', Ext S S' → Q (.d (.bl (stuckB w dss r))) S') : cal T (n + 2) 341 [.d (.tup [.int a, .int w]), .bw (dss.map dD), .d (rowD r)] S Q := by
  refine ⟨_, hT, rfl, rfl, ?_⟩
  have c329 := fun S r Q hs hr q => next_rows_ok h329 n ca hD (S := S) (r := r) (Q := Q) hs hr q
  generalize cal T (n + 1) = c at c329 ⊢
  have el : decide ((((r.1.map D.int).length : Nat) : Int) < (((dss.map dD).length : Nat) : Int)) = decide (r.1.length < dss.length) := by
    rw [List.length_map, List.length_map]
    exact lt_ints (P := fun b => b = decide (r.1.length < dss.length)) rfl
  refine ⟨_, rfl, ⟨_, rfl, ⟨_, rfl, ⟨_, rfl, ⟨_, rfl, ?_⟩⟩⟩⟩⟩
  show Br (decide ((((r.1.map D.int).length : Nat) : Int) < (((dss.map dD).length : Nat) : Int))) _ _
  rw [el]
  unfold stuckB at q
  refine Br.mk (fun hb => ?_) (fun hb => ?_)
  · rw [hb] at q
    refine ⟨_, rfl, ⟨_, rfl, ⟨_, rfl, c329 _ _ _ hs hr fun S2 ex2 => ?_⟩⟩⟩
    refine ⟨_, rfl, (show 0 ≤ sizeLine by decide), ⟨.inl rfl, ?_⟩⟩
    rw [nextD_emp]
    have := q S2 ex2
    rw [Bool.true_and] at this
    exact this
  · rw [hb] at q
    exact q S Ext.refl
theorem stuck_ok (h329 : T.fn 329 = some f_next_rows) (h330 : T.fn 330 = some f_order_to_2) (h331 : T.fn 331 = some f_all_rows) (h341 : T.fn 341 = some f_is_stuck) (hT : T.fn 342 = some f_stuck) (n : Nat) (ca : AloneC (cal T n) 43 a nb w nw) (hD : Dss nb w nw dss) (hs : (s0.length : Int) = nb)
    (q1 : ∀ p r l S', Ext S S' → S l = none → Rch w dss s0 p r → stuckB w dss r = true → (∀ p' r', Rch w dss s0 p' r' → stuckB w dss r' = true → p.length ≤ p'.length) → S' l = some (.lst (p.map .int)) → Q (.d (.tup [.str [115, 116, 117, 99, 107], .ref l])) S')
    (q2 : ∀ (rows : List Rw) (l : Addr) (S' : Hs), Ext S S' → S l = none → (∀ p r, Rch w dss s0 p r → stuckB w dss r = false) → S' l = some (.lst (rows.map rowD)) → (∀ r, r ∈ rows ↔ ∃ p, Rch w dss s0 p r) → rows.Nodup → rows.length ≤ 2097152 → Q (.d (.tup [.str [102, 114, 101, 101], .ref l])) S') :
    cal T (n + 3) 342 [.d (.tup [.int a, .int w]), .d (.tup (s0.map .int)), .bw (dss.map dD)] S Q := by
  refine ⟨_, hT, rfl, rfl, ?_⟩
  have c331 := fun Q q => all_rows_ok h329 h331 n ca hD hs (S := S) (Q := Q) q
  have c330 := fun (S : Hs) led d h ns i r e Q L hl hd hi q => order_to_ok (w := w) (dss := dss) (s0 := s0) h330 (n + 1) (led := led) (d := d) (h := h) (ns := ns) (S := S) (Q := Q) (i := i) (r := r) (e := e) L hl hd hi q
  have c341 := fun S r Q hs hr q => is_stuck_ok h329 h341 n ca hD (S := S) (r := r) (Q := Q) hs hr q
  generalize cal T (n + 2) = c at c331 c330 c341 ⊢
  refine ⟨_, rfl, ⟨_, rfl, ⟨_, rfl, c331 _ fun d led S1 ex hd0 hd B => ?_⟩⟩⟩
  have few := B.L.few hD.l
  refine ⟨d, _, hd, fun h ns => ?_⟩
  refine ⟨_, rfl, ⟨_, _, _, _, rfl, su_same, ?_⟩⟩
  refine forL_mapE rowD (led.map Prod.fst) (encR_keys entD led) (fun rest σ S' => (Ext S S' ∧ S' d = some (.fdn (encR entD led) h ns)) ∧ (∃ s4, σ = [some (.d (.tup [.int a, .int w])), some (.d (.tup (s0.map .int))), some (.bw (dss.map dD)), some (.d (.ref d)), s4]) ∧ ∀ r ∈ led.map Prod.fst, stuckB w dss r = true → r ∈ rest)
    (fun _ _ _ i => i.1.2) ?_ ?_ _ _ ⟨⟨ex.new hd0, su_same⟩, ⟨_, rfl⟩, fun r hr _ => hr⟩
  · rintro σ S' ⟨⟨ex', hd'⟩, ⟨s4, rfl⟩, hno⟩
    refine ⟨hd', ?_⟩
    have e2 : Ext S (su S' d (.dn (encR entD led))) := ex'.new hd0
    have d2 : (su S' d (.dn (encR entD led))) d = some (.dn (encR entD led)) := su_same
    generalize su S' d (.dn (encR entD led)) = S2 at e2 d2 ⊢
    refine ⟨_, rfl, ⟨_, d2, ⟨_, rfl, ?_⟩⟩⟩
    refine one1_i fun l hl => ?_
    refine ⟨_, rfl, (show 2 ≤ sizeLine by decide), ?_⟩
    have := q2 (led.map Prod.fst) l (su S2 l (.lst ((encR entD led).map Prod.fst))) (e2.new (e2.none hl)) (e2.none hl) (fun p r hp => by
      cases z : stuckB w dss r with
      | false => rfl
      | true => have := hno r (B.all (Nat.le_refl _) hp) z; cases this) (by rw [su_same, encR_keys]) (fun r => ⟨B.L.key, fun ⟨p, hp⟩ => B.all (Nat.le_refl _) hp⟩) B.L.nd (by simpa using few)
    exact this
  · rintro r rest hr ⟨pre, epre⟩ k σ S' hk ⟨⟨ex', hd'⟩, ⟨s4, rfl⟩, hno⟩
    obtain ⟨i, e, hi⟩ := B.idx hr
    obtain ⟨p0, hp0⟩ := B.L.key hr
    have l7 := hp0.len7 hD
    refine ⟨_, rfl, ⟨_, rfl, ⟨_, rfl, c341 _ _ _ (by rw [hp0.slen]; exact hs) (by rw [hp0.size]; omega) fun S2 ex2 => ?_⟩⟩⟩
    have e2 := ex'.trans ex2
    have d2 := ex2 _ _ hd'
    refine Br.mk (fun hb => ?_) (fun hb => ?_)
    · refine ⟨_, rfl, ⟨_, rfl, c330 _ led d h ns i r e _ B.L few d2 hi fun p hp => ?_⟩⟩
      refine one1_i fun l hl => ?_
      have ld : l ≠ d := fun z => by subst z; rw [d2] at hl; cases hl
      refine ⟨_, rfl, (show 2 ≤ sizeLine by decide), ?_⟩
      refine ⟨by rw [su_ne ld.symm]; exact d2, ?_⟩
      refine q1 p r l _ ((e2.new (e2.none hl)).new hd0) (e2.none hl) hp hb (fun p' r' hp' hb' => ?_) (by rw [su_ne ld, su_same])
      have hm := hno r' (B.all (Nat.le_refl _) hp') hb'
      have hle : r.1.length ≤ r'.1.length := by
        rcases List.mem_cons.mp hm with e | e
        · rw [e]; exact Nat.le_refl _
        · have so : ((led.map Prod.fst).map fun r => r.1.length).Pairwise (· ≤ ·) := by rw [List.map_map]; exact B.so
          rw [epre, List.map_append, List.pairwise_append] at so
          exact (List.pairwise_cons.mp so.2.1).1 _ (List.mem_map.mpr ⟨r', e, rfl⟩)
      rw [← hp.size, ← hp'.size]; exact hle
    · refine hk _ _ ⟨⟨e2, d2⟩, ⟨_, rfl⟩, fun r' h1 h2 => ?_⟩
      rcases List.mem_cons.mp (hno r' h1 h2) with e | e
      · subst e; rw [hb] at h2; cases h2
      · exact e
theorem fewest_ok (h336 : T.fn 336 = some f_law_next_3) (h337 : T.fn 337 = some f_law_rows) (hT : T.fn 343 = some f_law_fewest) (n : Nat) (ca : AloneC (cal T n) 46 a nb w nw) (ca1 : AloneC (cal T (n + 1)) 46 a nb w nw) (hD : Dss nb w nw dss) (hs : (s0.length : Int) = nb)
    (q : ∀ (m : Int) S', Ext S S' → (∀ p r, Rch w dss s0 p r → stuckB w dss r = true → m ≤ p.length) → (m = 7 ∨ ∃ p r, Rch w dss s0 p r ∧ stuckB w dss r = true ∧ m = p.length) → Q (.d (.int m)) S') : cal T (n + 3) 343 [.d (.tup [.int a, .int w]), .d (.tup (s0.map .int)), .bw (dss.map dD)] S Q := by
  refine ⟨_, hT, rfl, rfl, ?_⟩
  have c337 := fun Q q => law_rows_ok h336 h337 n ca hD hs (S := S) (s0 := s0) (Q := Q) q
  have c336 := fun S r Q hs hr q => lev (b := n + 2) (by omega) (law_next_ok h336 (n + 1) ca1 hD (S := S) (r := r) (Q := Q) hs hr q)
  generalize cal T (n + 2) = c at c337 c336 ⊢
  refine ⟨_, rfl, ⟨_, rfl, ⟨_, rfl, c337 _ fun d led known S1 ex hd0 K B => ?_⟩⟩⟩
  have few := B.L.few hD.l
  refine ⟨d, _, K.h, fun h ns => ?_⟩
  refine ⟨_, rfl, ⟨_, _, _, _, rfl, su_same, ?_⟩⟩
  refine compL_fltE rowD (fun r => D.int ((r.1.length : Nat) : Int)) (fun r => stuckB w dss r) (fun S' => Ext S S' ∧ S' d = some (.fdn (encR D.ref known) h ns)) (fun _ i => i.2) (led.map Prod.fst) (by rw [encR_keys, K.k]) (by rw [List.length_map, sizeLine_eq]; omega) (fun r hr S2 i P1 P2 k1 k2 => ?_) ⟨ex.new hd0, su_same⟩ ?_
  · obtain ⟨p0, hp0⟩ := B.L.key hr
    have l7 := hp0.len7 hD
    have el : decide ((((r.1.map D.int).length : Nat) : Int) < (((dss.map dD).length : Nat) : Int)) = decide (r.1.length < dss.length) := by
      rw [List.length_map, List.length_map]
      exact lt_ints (P := fun b => b = decide (r.1.length < dss.length)) rfl
    refine ⟨_, rfl, ⟨_, rfl, ⟨_, rfl, ⟨_, rfl, ⟨_, rfl, ?_⟩⟩⟩⟩⟩
    show Br (decide ((((r.1.map D.int).length : Nat) : Int) < (((dss.map dD).length : Nat) : Int))) _ _
    rw [el]
    unfold stuckB at k1 k2
    refine Br.mk (fun hb => ?_) (fun hb => ?_)
    · rw [hb, Bool.true_and] at k1 k2
      refine ⟨_, rfl, ⟨_, rfl, ⟨_, rfl, c336 _ _ _ (by rw [hp0.slen]; exact hs) (by rw [hp0.size]; omega) fun S3 ex3 => ?_⟩⟩⟩
      refine ⟨_, rfl, (show 0 ≤ sizeLine by decide), ⟨.inl rfl, ?_⟩⟩
      rw [nextD_emp]
      refine Br.mk (fun he => ?_) (fun he => ?_)
      · refine ⟨_, rfl, ⟨_, rfl, ⟨_, rfl, ?_⟩⟩⟩
        have := k1 he S3 ⟨i.1.trans ex3, ex3 _ _ i.2⟩
        rw [← List.length_map (f := D.int)] at this
        exact this
      · exact k2 he S3 ⟨i.1.trans ex3, ex3 _ _ i.2⟩
    · rw [hb, Bool.false_and] at k2
      exact Br.ff (k2 rfl S2 i)
  · intro S2 i
    have e2 : Ext S (su S2 d (.dn (encR D.ref known))) := i.1.new hd0
    refine ⟨i.2, ?_⟩
    generalize su S2 d (.dn (encR D.ref known)) = S3 at e2 ⊢
    have em : (List.filter (fun r => stuckB w dss r) (led.map Prod.fst)).map (fun r => D.int ((r.1.length : Nat) : Int)) = ((List.filter (fun r => stuckB w dss r) (led.map Prod.fst)).map fun r => ((r.1.length : Nat) : Int)).map D.int := by rw [List.map_map]; rfl
    have fl : (List.filter (fun r => stuckB w dss r) (led.map Prod.fst)).length ≤ led.length := by
      have := List.length_filter_le (fun r => stuckB w dss r) (led.map Prod.fst)
      simpa using this
    rw [em]
    have mem : ∀ x : Int, x ∈ ((List.filter (fun r => stuckB w dss r) (led.map Prod.fst)).map fun r => ((r.1.length : Nat) : Int)) → ∃ p r, Rch w dss s0 p r ∧ stuckB w dss r = true ∧ x = p.length := fun x hx => by
      obtain ⟨r, hr, rfl⟩ := List.mem_map.mp hx
      obtain ⟨hr1, hr2⟩ := List.mem_filter.mp hr
      obtain ⟨p, hp⟩ := B.L.key hr1
      exact ⟨p, r, hp, hr2, by rw [hp.size]⟩
    have all : ∀ p r, Rch w dss s0 p r → stuckB w dss r = true → (p.length : Int) ∈ ((List.filter (fun r => stuckB w dss r) (led.map Prod.fst)).map fun r => ((r.1.length : Nat) : Int)) := fun p r hp hb =>
      List.mem_map.mpr ⟨r, List.mem_filter.mpr ⟨B.all (Nat.le_refl _) hp, hb⟩, by rw [hp.size]⟩
    have ln : ((List.filter (fun r => stuckB w dss r) (led.map Prod.fst)).map fun r => ((r.1.length : Nat) : Int)).length ≤ 2097152 := by rw [List.length_map]; omega
    generalize ((List.filter (fun r => stuckB w dss r) (led.map Prod.fst)).map fun r => ((r.1.length : Nat) : Int)) = fs at mem all ln ⊢
    refine ⟨_, rfl, ⟨_, rfl, (show 1 ≤ sizeLine by decide), ?_⟩⟩
    refine ⟨by rw [List.length_map, sizeLine_eq]; show _ + 1 ≤ _; omega, ?_⟩
    refine ⟨fs ++ [7], by rw [List.map_append]; rfl, by simp, fun m hm hle => ?_⟩
    refine q m _ e2 (fun p r hp hb => hle _ (List.mem_append_left _ (all p r hp hb))) ?_
    rcases List.mem_append.mp hm with hm | hm
    · exact .inr (mem m hm)
    · exact .inl (by simpa using hm)
end
end LW

/-! W10: a stuck row gone along; k55. -/
namespace LW
open PySem L2 PySem.Spec PyProof.Rows DL
section
variable {T : Tbl} {S : Hs} {a nb w nw : Int} {dss : List (List Deed)} {s0 : List Int} {Q : VK2}
theorem nxts_perm {p q : List Int} {s : List Int} (h : p.Perm q) (e : nxts w dss (p, s) = []) : nxts w dss (q, s) = [] := by
  cases z : nxts w dss (q, s) with
  | nil => rfl
  | cons x l =>
    exfalso
    obtain ⟨k, r'⟩ := x
    have hm : (k, r') ∈ nxts w dss (q, s) := by rw [z]; exact List.mem_cons_self
    obtain ⟨i, ds, h1, h2, h3, h4, h5⟩ := mem_nxts.mp hm
    have : (k, (srt (p ++ [k]), r'.2)) ∈ nxts w dss (p, s) := mem_nxts.mpr ⟨i, ds, h1, h2, fun z => h3 (h.mem_iff.mp z), h4, rfl⟩
    rw [e] at this
    cases this
theorem law_is_stuck_ok (h336 : T.fn 336 = some f_law_next_3) (hT : T.fn 344 = some f_law_is_stuck) (n : Nat) (ca : AloneC (cal T n) 46 a nb w nw) (ca1 : AloneC (cal T (n + 1)) 46 a nb w nw) (hD : Dss nb w nw dss) (hs : (s0.length : Int) = nb) {p : List Int} {r : Rw} {l : Addr} (hl : S l = some (.lst (p.map .int))) (hp : Rch w dss s0 p r) (hb : stuckB w dss r = true)
    (q : ∀ S', Ext S S' → Q (.d (.bl true)) S') : cal T (n + 2) 344 [.d (.tup [.int a, .int w]), .bw (dss.map dD), .d (.tup (s0.map .int)), .d (.ref l)] S Q := by
  refine ⟨_, hT, rfl, rfl, ?_⟩
  have c336 := fun S r Q hs hr q => law_next_ok h336 n ca hD (S := S) (r := r) (Q := Q) hs hr q
  generalize cal T (n + 1) = c at ca1 c336 ⊢
  obtain ⟨pp, pn, pr, ps⟩ := hp.perm
  have l7 := hp.len7 hD
  have hrun := hp.runs
  unfold stuckB at hb
  obtain ⟨hb1, hb2⟩ := Bool.and_eq_true_iff.mp hb
  have hb1 := of_decide_eq_true hb1
  have hb2 : nxts w dss r = [] := by simpa using hb2
  refine ⟨_, rfl, (show 0 ≤ sizeLine by decide), ?_⟩
  refine ⟨_, rfl, ⟨_, hl, ?_⟩⟩
  refine forL_map D.int (fun rest σ S' => Ext S S' ∧ ∃ pre t s5 s6, σ = [some (.d (.tup [.int a, .int w])), some (.bw (dss.map dD)), some (.d (.tup (t.map .int))), some (.d (.ref l)), some (.d (.tup (pre.map .int))), s5, s6] ∧ p = pre ++ rest ∧ runs w dss rest t = some r.2 ∧ (t.length : Int) = nb) (fun _ _ _ h => h.1 _ _ hl) ?_ ?_ _ _ ⟨Ext.refl, [], s0, _, _, rfl, rfl, hrun, hs⟩
  · rintro σ S' ⟨ex, pre, t, s5, s6, rfl, e, hr, ht⟩
    have e : p = pre := by rw [e, List.append_nil]
    subst e
    have hr : t = r.2 := Option.some.inj hr
    subst hr
    have el : decide ((((p.map D.int).length : Nat) : Int) < (((dss.map dD).length : Nat) : Int)) = true := by
      rw [List.length_map, List.length_map]
      rw [hp.size] at hb1
      exact decide_eq_true (by omega)
    refine ⟨_, rfl, ⟨_, rfl, ⟨_, rfl, ⟨_, rfl, Br.of true el ?_⟩⟩⟩⟩
    refine ⟨_, rfl, ⟨_, rfl, ⟨_, rfl, ⟨_, rfl, ⟨_, rfl, (show 2 ≤ sizeLine by decide), c336 _ (p, r.2) _ ht (show p.length ≤ 10 by omega) fun S2 ex2 => ?_⟩⟩⟩⟩⟩
    refine ⟨_, rfl, (show 0 ≤ sizeLine by decide), ⟨.inl rfl, ?_⟩⟩
    rw [nextD_emp, nxts_perm pp (by rw [show (r.1, r.2) = r from rfl]; exact hb2)]
    exact q _ (ex.trans ex2)
  · rintro k rest hk _ kk σ S' hkk ⟨ex, pre, t, s5, s6, rfl, e, hrn, ht⟩
    obtain ⟨k0, k1⟩ := pr k hk
    obtain ⟨i, rfl⟩ := Int.eq_ofNat_of_zero_le k0
    have hi : i < dss.length := by omega
    have hget : (dss.map dD)[i]? = some (dD dss[i]) := by rw [List.getElem?_map, List.getElem?_eq_getElem hi]; rfl
    have hrn : (stepR w t (dss.getD i [])).bind (runs w dss rest) = some r.2 := hrn
    rw [List.getD_eq_getElem?_getD, List.getElem?_eq_getElem hi] at hrn
    have hrn : (stepR w t dss[i]).bind (runs w dss rest) = some r.2 := hrn
    obtain ⟨d1, d2, d3⟩ := hD.d dss[i] (List.getElem_mem hi)
    have hnp : ¬ (i : Int) ∈ pre := fun z => by
      rw [e] at pn
      exact (List.nodup_append.mp pn).2.2 _ z _ List.mem_cons_self rfl
    have lp : pre.length ≤ 7 := by rw [e] at l7; simp at l7; omega
    refine ⟨_, rfl, ⟨_, rfl, Br.ff ?_⟩⟩
    refine ⟨_, rfl, ⟨_, rfl, Br.ff ?_⟩⟩
    refine ⟨_, rfl, Br.of true (decide_eq_true k0) ⟨_, rfl, ⟨_, rfl, ?_⟩⟩⟩
    have ek : decide ((i : Int) < (((dss.map dD).length : Nat) : Int)) = true := by rw [List.length_map]; exact decide_eq_true k1
    refine Br.of false (congrArg not ek) ?_
    refine ⟨_, rfl, ⟨_, rfl, ⟨_, rfl, ⟨_, getI_nat hget, ⟨_, rfl, ca1 S' t dss[i] _ ht d1 d2 d3 ?_⟩⟩⟩⟩⟩
    intro S2 ex2
    unfold stepR at hrn
    split
    · rename_i hw
      rw [if_pos hw] at hrn
      cases hrn
    · rename_i hw
      rw [if_neg hw] at hrn
      refine ⟨_, rfl, ⟨_, rfl, ⟨rfl, flat_ints _, ?_⟩⟩⟩
      rw [any_ints]
      refine Br.of false (decide_eq_false hnp) ?_
      refine ⟨_, rfl, ⟨_, rfl, ⟨rfl, rfl, Br.ff ?_⟩⟩⟩
      refine ⟨_, rfl, ⟨_, rfl, ?_⟩⟩
      refine ⟨_, rfl, ?_⟩
      refine ⟨_, rfl, ⟨_, rfl, ⟨_, rfl, (show 1 ≤ sizeLine by decide), ⟨by rw [List.length_map, sizeLine_eq]; show _ + 1 ≤ _; omega, ?_⟩⟩⟩⟩
      refine ⟨_, rfl, ?_⟩
      have := hkk [some (.d (.tup [.int a, .int w])), some (.bw (dss.map dD)), some (.d (.tup ((nowS t (gos w t dss[i] 0 st0).2.puts).map .int))), some (.d (.ref l)), some (.d (.tup ((pre ++ [(i : Int)]).map .int))), some (.d (.int (i : Int))), some (.d (.tup [sDone, .tup ((nowS t (gos w t dss[i] 0 st0).2.puts).map .int), .tup ((gos w t dss[i] 0 st0).2.held.map .int)]))] S2
        ⟨ex.trans ex2, pre ++ [(i : Int)], _, _, _, rfl, by rw [e, List.append_assoc]; rfl, hrn, by rw [← ht]; unfold nowS; simp⟩
      rw [List.map_append] at this
      exact this
end
theorem law_ok55 {T : Tbl} (A : AlT T) (L : LwT T) (G : GdT T) (RT : RowT T) (h341 : T.fn 341 = some f_is_stuck) (h342 : T.fn 342 = some f_stuck) (h343 : T.fn 343 = some f_law_fewest) (h344 : T.fn 344 = some f_law_is_stuck) (f : Nat) (hT : T.fn f = some f_law_51)
    (n : Nat) {ns : List Int} : cal T (n + 31) f [.fz (ns.map D.int)] (fun _ => none) fun r _ => r = .d (.bl true) := by
  refine ⟨_, hT, rfl, rfl, ?_⟩
  have c4 := fun Q => pen_ok G.h4 (n + 29) (ns := ns) (S := fun _ => none) (Q := Q)
  have c6 := fun S p q ns k r Q => world_ok G.h5 G.h6 (n + 28) (S := S) (p := p) (q := q) (ns := ns) (k := k) (r := r) (Q := Q)
  have c335 := fun S p q ns k r a b Q h a1 a6 b2 b3 w => few_state_ok G (n + 28) (S := S) (p := p) (q := q) (ns := ns) (k := k) (r := r) (a := a) (b := b) (Q := Q) h a1 a6 b2 b3 w
  have c334 := fun S p q ns k r a b most Q h a1 a6 b2 b3 m1 m7 w => some_dealings_ok G (n + 23) (S := S) (p := p) (q := q) (ns := ns) (k := k) (r := r) (a := a) (b := b) (most := most) (Q := Q) h a1 a6 b2 b3 m1 m7 w
  have c343 := fun S a w nb dss s0 Q (hD : Dss nb w w dss) hs q => lev (b := n + 30) (by omega) (fewest_ok RT.h336 RT.h337 h343 (n + 27) (lawAloneC L (n + 19) (a := a) hD.w0 hD.n6) (lawAloneC L (n + 20) (a := a) hD.w0 hD.n6) hD hs (S := S) (s0 := s0) (Q := Q) q)
  have c342 := fun S a w nb dss s0 Q (hD : Dss nb w w dss) hs q1 q2 => lev (b := n + 30) (by omega) (stuck_ok RT.h329 RT.h330 RT.h331 h341 h342 (n + 27) (aloneC A (n + 19) (a := a) hD.w0 hD.n6) hD hs (S := S) (s0 := s0) (Q := Q) q1 q2)
  have c344 := fun S a w nb dss s0 p r l Q (hD : Dss nb w w dss) hs hl hp hb q => lev (b := n + 30) (by omega) (law_is_stuck_ok RT.h336 h344 (n + 28) (lawAloneC L (n + 20) (a := a) hD.w0 hD.n6) (lawAloneC L (n + 21) (a := a) hD.w0 hD.n6) hD hs (S := S) (s0 := s0) (p := p) (r := r) (l := l) (Q := Q) hl hp hb q)
  generalize cal T (n + 30) = c at c4 c6 c335 c334 c343 c342 c344 ⊢
  refine ⟨_, rfl, c4 _ fun q hq ns => ?_⟩
  refine ⟨_, rfl, fun p hp => ?_⟩
  have hne : q ≠ p := fun e => by subst e; rw [su_same] at hp; cases hp
  have h0 : PenAt (su (su (fun _ => none) q (.lst (ns.map .int))) p (.lst [.ref q, .int 0, .int 0])) p q ns 0 0 := ⟨su_same, by rw [su_ne hne]; exact su_same, hne, by decide, by decide⟩
  generalize su (su (fun _ => none) q (.lst (ns.map .int))) p (.lst [.ref q, .int 0, .int 0]) = S0 at h0 ⊢
  refine ⟨_, rfl, c6 _ _ _ _ _ _ _ h0 fun a b k1 r1 a1 a6 b2 b3 k10 r10 => ?_⟩
  have h1 := h0.up k10 r10
  generalize su S0 p (.lst [.ref q, .int k1, .int r1]) = S1 at h1 ⊢
  refine ⟨_, rfl, by decide, by decide, ?_⟩
  refine forL_inv (fun σ S => ∃ s0 s3 s4 s5 s6 s7 s8 s9 k r, σ = [s0, some (.d (.ref p)), some (.d (.tup [.int a, .int b])), s3, s4, s5, s6, s7, s8, s9] ∧ PenAt S p q ns k r) (fun _ _ _ => trivial) (fun σ S _ => rfl) _ ?_ _ _ ⟨_, _, _, _, _, _, _, _, _, _, rfl, h1⟩
  rintro x _ kk σ S hk ⟨s0, s3, s4, s5, s6, s7, s8, s9, k, r, rfl, h⟩
  refine ⟨_, rfl, ⟨_, rfl, c335 _ _ _ _ _ _ _ _ _ h a1 a6 b2 b3 fun ss k2 r2 sl k20 r20 => ?_⟩⟩
  have h2 := h.up k20 r20
  generalize su S p (.lst [.ref q, .int k2, .int r2]) = S2 at h2 ⊢
  refine ⟨_, rfl, ⟨_, rfl, c334 _ _ _ _ _ _ _ _ 6 _ h2 a1 a6 b2 b3 (by decide) (by decide) fun dss k3 r3 dl dok k30 r30 => ?_⟩⟩
  have h3 := h2.up k30 r30
  generalize su S2 p (.lst [.ref q, .int k3, .int r3]) = S3 at h3 ⊢
  have hD : Dss a b b dss := ⟨by omega, a6, by omega, dok⟩
  have hn : dss.length ≤ 6 := by omega
  have pl := plns_dss (nb := a) (w := b) (nw := b) fun ds hd => (dok ds hd).1
  refine ⟨_, rfl, ⟨_, rfl, ⟨_, rfl, c343 _ _ _ _ _ _ _ hD sl fun m S4 ex4 hm1 hm2 => ?_⟩⟩⟩
  have h4 : PenAt S4 p q ns k3 r3 := h3.ext ex4
  have hm7 : (∃ p r, Rch b dss ss p r ∧ stuckB b dss r = true) ↔ m < 7 := by
    constructor
    · rintro ⟨p, r, hp, hr⟩
      have z := hm1 p r hp hr
      unfold stuckB at hr
      obtain ⟨hb1, _⟩ := Bool.and_eq_true_iff.mp hr
      have hb1 := of_decide_eq_true hb1
      rw [hp.size] at hb1
      omega
    · intro z
      rcases hm2 with e | ⟨p, r, hp, hr, _⟩
      · omega
      · exact ⟨p, r, hp, hr⟩
  refine one1_i ?_
  refine ⟨_, rfl, by decide, by decide, ?_⟩
  refine forL_inv (fun σ S => ∃ s7 s8 s9, σ = [s0, some (.d (.ref p)), some (.d (.tup [.int a, .int b])), some (.d x), some (.d (.tup (ss.map .int))), some (.vl (dss.map dD)), some (.d (.int m)), s7, s8, s9] ∧ PenAt S p q ns k3 r3) (fun _ _ _ => trivial) ?_ _ ?_ _ _ ⟨_, _, _, rfl, h4⟩
  · rintro σ S6 ⟨s7, s8, s9, rfl, h6⟩
    exact hk _ _ ⟨_, _, _, _, _, _, _, _, _, _, rfl, h6⟩
  rintro x2 _ k5 σ S6 hk5 ⟨s7, s8, s9, rfl, h6⟩
  refine ⟨_, rfl, ⟨_, rfl, ?_⟩⟩
  refine ⟨_, rfl, ⟨_, rfl, ⟨_, rfl, c342 _ _ _ _ _ _ _ hD sl ?_ ?_⟩⟩⟩
  · intro pt r l S7 ex7 hl0 hp hr hmin hl
    have m7 : m < 7 := hm7.mp ⟨pt, r, hp, hr⟩
    have em : m = (pt.length : Int) := by
      rcases hm2 with e | ⟨p2, r2, hp2, hr2, e⟩
      · omega
      · have z1 := hm1 pt r hp hr
        have z2 := hmin p2 r2 hp2 hr2
        omega
    have h7 := h6.ext ex7
    refine ⟨_, rfl, ⟨_, rfl, Br.ff ?_⟩⟩
    refine ⟨_, rfl, ⟨_, rfl, ⟨rfl, rfl, Br.ff ?_⟩⟩⟩
    refine ⟨_, rfl, ⟨_, rfl, ⟨.inr ⟨pl, pl⟩, Br.of false (congrArg not (eqBs_refl 60 _ pl)) ?_⟩⟩⟩
    refine ⟨_, rfl, ⟨_, rfl, ⟨_, isList hl, Br.ff ?_⟩⟩⟩
    refine ⟨_, rfl, ⟨_, rfl, ⟨_, rfl, (show 2 ≤ sizeLine by decide), ⟨_, rfl, ?_⟩⟩⟩⟩
    refine ⟨.str [115, 116, 117, 99, 107], by rw [if_pos (decide_eq_true m7)]; rfl, ⟨rfl, rfl, Br.ff ?_⟩⟩
    refine ⟨_, rfl, ⟨_, rfl, ⟨_, rfl, Br.ff ?_⟩⟩⟩
    refine ⟨_, rfl, Br.of true (decide_eq_true m7) ?_⟩
    refine ⟨_, rfl, ⟨_, rfl, ⟨_, hl, ⟨_, rfl, ⟨_, rfl, ⟨rfl, rfl, ?_⟩⟩⟩⟩⟩⟩
    refine Br.of false ?_ ?_
    · show (!decide ((((pt.map D.int).length : Nat) : Int) = m)) = false
      rw [List.length_map, em]; simp
    refine ⟨_, rfl, Br.of true (decide_eq_true m7) ?_⟩
    refine ⟨_, rfl, ⟨_, rfl, ⟨_, rfl, ⟨_, rfl, ⟨_, rfl, c344 _ _ _ _ _ _ pt r l _ hD sl hl hp hr fun S8 ex8 => Br.ff ?_⟩⟩⟩⟩⟩
    have hl8 := ex8 _ _ hl
    have l7 := hp.len7 hD
    refine ⟨_, rfl, ⟨_, rfl, ⟨l, _, rfl, hl8, ⟨_, hl8, ⟨by rw [List.length_map, sizeLine_eq]; omega, ⟨_, rfl, ?_⟩⟩⟩⟩⟩⟩
    have lp : l ≠ p := h6.ap hl0
    have lq : l ≠ q := h6.aq hl0
    exact hk5 _ _ ⟨_, _, _, rfl, (h7.ext ex8).oth lp lq⟩
  · intro rows l S7 ex7 hl0 hno hl hrw hnd hfew
    have m7 : ¬ m < 7 := fun z => by
      obtain ⟨p, r, hp, hr⟩ := hm7.mpr z
      rw [hno p r hp] at hr; cases hr
    have h7 := h6.ext ex7
    refine ⟨_, rfl, ⟨_, rfl, Br.ff ?_⟩⟩
    refine ⟨_, rfl, ⟨_, rfl, ⟨rfl, rfl, Br.ff ?_⟩⟩⟩
    refine ⟨_, rfl, ⟨_, rfl, ⟨.inr ⟨pl, pl⟩, Br.of false (congrArg not (eqBs_refl 60 _ pl)) ?_⟩⟩⟩
    refine ⟨_, rfl, ⟨_, rfl, ⟨_, isList hl, Br.ff ?_⟩⟩⟩
    refine ⟨_, rfl, ⟨_, rfl, ⟨_, rfl, (show 2 ≤ sizeLine by decide), ⟨_, rfl, ?_⟩⟩⟩⟩
    refine ⟨.str [102, 114, 101, 101], by rw [if_neg (fun z => m7 (of_decide_eq_true z))]; rfl, ⟨rfl, rfl, Br.ff ?_⟩⟩
    refine ⟨_, rfl, ⟨_, rfl, ⟨_, rfl, Br.ff ?_⟩⟩⟩
    refine ⟨_, rfl, Br.of false (decide_eq_false m7) (Br.ff ?_)⟩
    refine ⟨_, rfl, Br.of false (decide_eq_false m7) (Br.ff ?_)⟩
    refine ⟨_, rfl, ⟨_, rfl, ⟨l, _, rfl, hl, ⟨_, hl, ⟨by rw [List.length_map, sizeLine_eq]; omega, ⟨_, rfl, ?_⟩⟩⟩⟩⟩⟩
    have lp : l ≠ p := h6.ap hl0
    have lq : l ≠ q := h6.aq hl0
    exact hk5 _ _ ⟨_, _, _, rfl, h7.oth lp lq⟩
end LW

namespace LW
open PySem L2 PySem.Spec PyProof.Rows DL
def topS (i : Nat) : Stmt := PySem.Challenge.pw_oneglance_k55_stuck_or_free.main.body.getD i (.Pass ⟨0, 0, 0, 0⟩)
def d_Doing_init : DefI := ⟨37, "__init__", "Doing.__init__", inClass (topS 2) 0, ["self", "world", "state"], ["self", "world", "state"], f_Doing_init, (some 1), false⟩
def d_Doing_now : DefI := ⟨38, "now", "Doing.now", inClass (topS 2) 1, ["self", "box", "number"], ["self"], f_Doing_now, (some 1), false⟩
def d_Doing_look : DefI := ⟨39, "look", "Doing.look", inClass (topS 2) 2, ["self", "hand", "box"], ["self", "hand", "box"], f_Doing_look, (some 1), false⟩
def d_Doing_plain : DefI := ⟨40, "plain", "Doing.plain", inClass (topS 2) 3, ["self", "deed", "word", "one", "other"], ["self", "deed"], f_Doing_plain, (some 1), false⟩
def d_Doing_waits : DefI := ⟨41, "waits", "Doing.waits", inClass (topS 2) 4, ["self", "dealing", "at", "deed"], ["self", "dealing"], f_Doing_waits, (some 1), false⟩
def d_Doing_tries_in_vain : DefI := ⟨42, "tries_in_vain", "Doing.tries_in_vain", inClass (topS 2) 5, ["self", "one", "other", "puts", "hands"], ["self", "one", "other"], f_Doing_tries_in_vain, (some 1), false⟩
def d_alone : DefI := ⟨43, "alone", "alone", topS 3, ["world", "dealing", "state", "doing"], ["world", "dealing", "state"], f_alone, none, false⟩
def d_next_rows : DefI := ⟨329, "next_rows", "next_rows", topS 5, ["world", "dealings", "row", "done", "state", "found", "number", "dealing", "told"], ["world", "dealings", "row"], f_next_rows, none, false⟩
def d_order_to_2 : DefI := ⟨330, "order_to", "order_to", topS 6, ["led", "row", "found", "number"], ["led", "row"], f_order_to_2, none, false⟩
def d_all_rows : DefI := ⟨331, "all_rows", "all_rows", topS 7, ["world", "dealings", "state", "first", "led", "waiting", "at", "number", "row"], ["world", "dealings", "state"], f_all_rows, none, false⟩
def d_is_stuck : DefI := ⟨341, "is_stuck", "is_stuck", topS 8, ["world", "dealings", "row"], ["world", "dealings", "row"], f_is_stuck, none, false⟩
def d_stuck : DefI := ⟨342, "stuck", "stuck", topS 9, ["world", "state", "dealings", "led", "row"], ["world", "state", "dealings"], f_stuck, none, false⟩
def d_law_pen : DefI := ⟨4, "_law_pen", "_law_pen", topS 11, ["script"], ["script"], f_law_pen, none, false⟩
def d_law_take : DefI := ⟨5, "_law_take", "_law_take", topS 12, ["pen", "many", "at", "cell", "one", "two", "three", "found"], ["pen", "many"], f_law_take, none, false⟩
def d_law_world : DefI := ⟨6, "_law_world", "_law_world", topS 13, ["pen"], ["pen"], f_law_world, none, false⟩
def d_law_size : DefI := ⟨23, "_law_size", "_law_size", topS 15, ["dealing", "many", "deed"], ["dealing"], f_law_size, none, false⟩
def d_law_plain_deed : DefI := ⟨24, "_law_plain_deed", "_law_plain_deed", topS 16, ["pen", "world", "way", "hand"], ["pen", "world", "way", "hand"], f_law_plain_deed, none, false⟩
def d_law_dealing : DefI := ⟨25, "_law_dealing", "_law_dealing", topS 17, ["pen", "world", "room", "tries", "deeds", "left", "k", "way", "hand", "one", "other"], ["pen", "world", "room", "tries"], f_law_dealing, none, false⟩
def d_law_plain : DefI := ⟨44, "_law_plain", "_law_plain", topS 18, ["world", "deed", "now", "word", "one", "other"], ["world", "deed", "now"], f_law_plain, none, false⟩
def d_law_waits : DefI := ⟨45, "_law_waits", "_law_waits", topS 19, ["world", "dealing", "now", "out", "deed", "kept", "part"], ["world", "dealing", "now"], f_law_waits, none, false⟩
def d_law_alone : DefI := ⟨46, "_law_alone", "_law_alone", topS 20, ["world", "dealing", "state", "now"], ["world", "dealing", "state"], f_law_alone, none, false⟩
def d_law_keen : DefI := ⟨333, "_law_keen", "_law_keen", topS 21, ["pen", "world", "box", "there", "way", "guard", "other", "goal"], ["pen", "world"], f_law_keen, none, false⟩
def d_law_some_dealings : DefI := ⟨334, "_law_some_dealings", "_law_some_dealings", topS 22, ["pen", "world", "most", "found", "many", "k"], ["pen", "world", "most"], f_law_some_dealings, none, false⟩
def d_law_few_state : DefI := ⟨335, "_law_few_state", "_law_few_state", topS 23, ["pen", "world", "box"], ["pen", "world"], f_law_few_state, none, false⟩
def d_law_next_3 : DefI := ⟨336, "_law_next", "_law_next", topS 24, ["world", "dealings", "row", "found", "number", "dealing", "told"], ["world", "dealings", "row"], f_law_next_3, none, false⟩
def d_law_rows : DefI := ⟨337, "_law_rows", "_law_rows", topS 25, ["world", "state", "dealings", "rows", "known", "at", "number", "row"], ["world", "state", "dealings"], f_law_rows, none, false⟩
def d_law_fewest : DefI := ⟨343, "_law_fewest", "_law_fewest", topS 26, ["world", "state", "dealings", "known", "found", "row"], ["world", "state", "dealings"], f_law_fewest, none, false⟩
def d_law_is_stuck : DefI := ⟨344, "_law_is_stuck", "_law_is_stuck", topS 27, ["world", "dealings", "state", "order", "done", "number", "told"], ["world", "dealings", "state", "order"], f_law_is_stuck, none, false⟩
def d_law_51 : DefI := ⟨345, "law", "law", topS 28, ["script", "pen", "world", "turn", "state", "dealings", "fewest", "again", "handed", "found"], ["script"], f_law_51, none, false⟩
def c_Doing : ClsI := ⟨1, "Doing", ["wheel", "state", "puts", "held", "looked"], 37⟩
def g_HANDS : Nat × Str × Vx := (10, "HANDS", (.d (.int 4)))
def inf : Inf := ⟨[d_Doing_init, d_Doing_now, d_Doing_look, d_Doing_plain, d_Doing_waits, d_Doing_tries_in_vain, d_alone, d_next_rows, d_order_to_2, d_all_rows, d_is_stuck, d_stuck, d_law_pen, d_law_take, d_law_world, d_law_size, d_law_plain_deed, d_law_dealing, d_law_plain, d_law_waits, d_law_alone, d_law_keen, d_law_some_dealings, d_law_few_state, d_law_next_3, d_law_rows, d_law_fewest, d_law_is_stuck, d_law_51], [c_Doing], [g_HANDS]⟩
theorem k_Doing_init : chkD inf d_Doing_init = true := by decide +kernel
theorem k_Doing_now : chkD inf d_Doing_now = true := by decide +kernel
theorem k_Doing_look : chkD inf d_Doing_look = true := by decide +kernel
theorem k_Doing_plain : chkD inf d_Doing_plain = true := by decide +kernel
theorem k_Doing_waits : chkD inf d_Doing_waits = true := by decide +kernel
theorem k_Doing_tries_in_vain : chkD inf d_Doing_tries_in_vain = true := by decide +kernel
theorem k_alone : chkD inf d_alone = true := by decide +kernel
theorem k_next_rows : chkD inf d_next_rows = true := by decide +kernel
theorem k_order_to_2 : chkD inf d_order_to_2 = true := by decide +kernel
theorem k_all_rows : chkD inf d_all_rows = true := by decide +kernel
theorem k_is_stuck : chkD inf d_is_stuck = true := by decide +kernel
theorem k_stuck : chkD inf d_stuck = true := by decide +kernel
theorem k_law_pen : chkD inf d_law_pen = true := by decide +kernel
theorem k_law_take : chkD inf d_law_take = true := by decide +kernel
theorem k_law_world : chkD inf d_law_world = true := by decide +kernel
theorem k_law_size : chkD inf d_law_size = true := by decide +kernel
theorem k_law_plain_deed : chkD inf d_law_plain_deed = true := by decide +kernel
theorem k_law_dealing : chkD inf d_law_dealing = true := by decide +kernel
theorem k_law_plain : chkD inf d_law_plain = true := by decide +kernel
theorem k_law_waits : chkD inf d_law_waits = true := by decide +kernel
theorem k_law_alone : chkD inf d_law_alone = true := by decide +kernel
theorem k_law_keen : chkD inf d_law_keen = true := by decide +kernel
theorem k_law_some_dealings : chkD inf d_law_some_dealings = true := by decide +kernel
theorem k_law_few_state : chkD inf d_law_few_state = true := by decide +kernel
theorem k_law_next_3 : chkD inf d_law_next_3 = true := by decide +kernel
theorem k_law_rows : chkD inf d_law_rows = true := by decide +kernel
theorem k_law_fewest : chkD inf d_law_fewest = true := by decide +kernel
theorem k_law_is_stuck : chkD inf d_law_is_stuck = true := by decide +kernel
theorem k_law_51 : chkD inf d_law_51 = true := by decide +kernel
theorem inf_chk : inf.Chk := chk_of (by
  show [d_Doing_init, d_Doing_now, d_Doing_look, d_Doing_plain, d_Doing_waits, d_Doing_tries_in_vain, d_alone, d_next_rows, d_order_to_2, d_all_rows, d_is_stuck, d_stuck, d_law_pen, d_law_take, d_law_world, d_law_size, d_law_plain_deed, d_law_dealing, d_law_plain, d_law_waits, d_law_alone, d_law_keen, d_law_some_dealings, d_law_few_state, d_law_next_3, d_law_rows, d_law_fewest, d_law_is_stuck, d_law_51].all (chkD inf) = true
  simp only [List.all_cons, List.all_nil, Bool.and_self, k_Doing_init, k_Doing_now, k_Doing_look, k_Doing_plain, k_Doing_waits, k_Doing_tries_in_vain, k_alone, k_next_rows, k_order_to_2, k_all_rows, k_is_stuck, k_stuck, k_law_pen, k_law_take, k_law_world, k_law_size, k_law_plain_deed, k_law_dealing, k_law_plain, k_law_waits, k_law_alone, k_law_keen, k_law_some_dealings, k_law_few_state, k_law_next_3, k_law_rows, k_law_fewest, k_law_is_stuck, k_law_51]) (by decide +kernel)
theorem law2 : Holds2 inf 345 := fun ns _ _ => law_ok55 ⟨⟨rfl, rfl, rfl, rfl, rfl, rfl, rfl, rfl⟩, rfl, rfl, rfl, rfl, rfl, rfl⟩ ⟨rfl, rfl, rfl⟩ ⟨rfl, rfl, rfl, rfl, rfl, rfl, rfl, rfl, rfl⟩ ⟨rfl, rfl, rfl, rfl, rfl⟩ rfl rfl rfl rfl 345 rfl 69
theorem facts {l : PySem.W.OpenLaw} {w : World} {K : PySem.W.Frag} {h : Heap} {mg : Str → Option Value} {fa : Addr} (KX : K.In h) (G : h.Ns mainGlobals mg) (hfa : mg "law" = some (.ref fa))
    {CDoing : Addr} {fDoing_init : Addr} {odDoing_init anDoing_init : Option Addr} {slDoing_init : Array (Option Value)} {ocDoing_init kVDoing_init dcDoing_init pmDoing_init cdDoing_init ctDoing_init : Value} {fDoing_now : Addr} {odDoing_now anDoing_now : Option Addr} {slDoing_now : Array (Option Value)} {ocDoing_now kVDoing_now dcDoing_now pmDoing_now cdDoing_now ctDoing_now : Value} {fDoing_look : Addr} {odDoing_look anDoing_look : Option Addr} {slDoing_look : Array (Option Value)} {ocDoing_look kVDoing_look dcDoing_look pmDoing_look cdDoing_look ctDoing_look : Value} {fDoing_plain : Addr} {odDoing_plain anDoing_plain : Option Addr} {slDoing_plain : Array (Option Value)} {ocDoing_plain kVDoing_plain dcDoing_plain pmDoing_plain cdDoing_plain ctDoing_plain : Value} {fDoing_waits : Addr} {odDoing_waits anDoing_waits : Option Addr} {slDoing_waits : Array (Option Value)} {ocDoing_waits kVDoing_waits dcDoing_waits pmDoing_waits cdDoing_waits ctDoing_waits : Value} {fDoing_tries_in_vain : Addr} {odDoing_tries_in_vain anDoing_tries_in_vain : Option Addr} {slDoing_tries_in_vain : Array (Option Value)} {ocDoing_tries_in_vain kVDoing_tries_in_vain dcDoing_tries_in_vain pmDoing_tries_in_vain cdDoing_tries_in_vain ctDoing_tries_in_vain : Value} {falone : Addr} {odalone analone : Option Addr} {slalone : Array (Option Value)} {ocalone kValone dcalone pmalone cdalone ctalone : Value} {fnext_rows : Addr} {odnext_rows annext_rows : Option Addr} {slnext_rows : Array (Option Value)} {ocnext_rows kVnext_rows dcnext_rows pmnext_rows cdnext_rows ctnext_rows : Value} {forder_to_2 : Addr} {odorder_to_2 anorder_to_2 : Option Addr} {slorder_to_2 : Array (Option Value)} {ocorder_to_2 kVorder_to_2 dcorder_to_2 pmorder_to_2 cdorder_to_2 ctorder_to_2 : Value} {fall_rows : Addr} {odall_rows anall_rows : Option Addr} {slall_rows : Array (Option Value)} {ocall_rows kVall_rows dcall_rows pmall_rows cdall_rows ctall_rows : Value} {fis_stuck : Addr} {odis_stuck anis_stuck : Option Addr} {slis_stuck : Array (Option Value)} {ocis_stuck kVis_stuck dcis_stuck pmis_stuck cdis_stuck ctis_stuck : Value} {fstuck : Addr} {odstuck anstuck : Option Addr} {slstuck : Array (Option Value)} {ocstuck kVstuck dcstuck pmstuck cdstuck ctstuck : Value} {flaw_pen : Addr} {odlaw_pen anlaw_pen : Option Addr} {sllaw_pen : Array (Option Value)} {oclaw_pen kVlaw_pen dclaw_pen pmlaw_pen cdlaw_pen ctlaw_pen : Value} {flaw_take : Addr} {odlaw_take anlaw_take : Option Addr} {sllaw_take : Array (Option Value)} {oclaw_take kVlaw_take dclaw_take pmlaw_take cdlaw_take ctlaw_take : Value} {flaw_world : Addr} {odlaw_world anlaw_world : Option Addr} {sllaw_world : Array (Option Value)} {oclaw_world kVlaw_world dclaw_world pmlaw_world cdlaw_world ctlaw_world : Value} {flaw_size : Addr} {odlaw_size anlaw_size : Option Addr} {sllaw_size : Array (Option Value)} {oclaw_size kVlaw_size dclaw_size pmlaw_size cdlaw_size ctlaw_size : Value} {flaw_plain_deed : Addr} {odlaw_plain_deed anlaw_plain_deed : Option Addr} {sllaw_plain_deed : Array (Option Value)} {oclaw_plain_deed kVlaw_plain_deed dclaw_plain_deed pmlaw_plain_deed cdlaw_plain_deed ctlaw_plain_deed : Value} {flaw_dealing : Addr} {odlaw_dealing anlaw_dealing : Option Addr} {sllaw_dealing : Array (Option Value)} {oclaw_dealing kVlaw_dealing dclaw_dealing pmlaw_dealing cdlaw_dealing ctlaw_dealing : Value} {flaw_plain : Addr} {odlaw_plain anlaw_plain : Option Addr} {sllaw_plain : Array (Option Value)} {oclaw_plain kVlaw_plain dclaw_plain pmlaw_plain cdlaw_plain ctlaw_plain : Value} {flaw_waits : Addr} {odlaw_waits anlaw_waits : Option Addr} {sllaw_waits : Array (Option Value)} {oclaw_waits kVlaw_waits dclaw_waits pmlaw_waits cdlaw_waits ctlaw_waits : Value} {flaw_alone : Addr} {odlaw_alone anlaw_alone : Option Addr} {sllaw_alone : Array (Option Value)} {oclaw_alone kVlaw_alone dclaw_alone pmlaw_alone cdlaw_alone ctlaw_alone : Value} {flaw_keen : Addr} {odlaw_keen anlaw_keen : Option Addr} {sllaw_keen : Array (Option Value)} {oclaw_keen kVlaw_keen dclaw_keen pmlaw_keen cdlaw_keen ctlaw_keen : Value} {flaw_some_dealings : Addr} {odlaw_some_dealings anlaw_some_dealings : Option Addr} {sllaw_some_dealings : Array (Option Value)} {oclaw_some_dealings kVlaw_some_dealings dclaw_some_dealings pmlaw_some_dealings cdlaw_some_dealings ctlaw_some_dealings : Value} {flaw_few_state : Addr} {odlaw_few_state anlaw_few_state : Option Addr} {sllaw_few_state : Array (Option Value)} {oclaw_few_state kVlaw_few_state dclaw_few_state pmlaw_few_state cdlaw_few_state ctlaw_few_state : Value} {flaw_next_3 : Addr} {odlaw_next_3 anlaw_next_3 : Option Addr} {sllaw_next_3 : Array (Option Value)} {oclaw_next_3 kVlaw_next_3 dclaw_next_3 pmlaw_next_3 cdlaw_next_3 ctlaw_next_3 : Value} {flaw_rows : Addr} {odlaw_rows anlaw_rows : Option Addr} {sllaw_rows : Array (Option Value)} {oclaw_rows kVlaw_rows dclaw_rows pmlaw_rows cdlaw_rows ctlaw_rows : Value} {flaw_fewest : Addr} {odlaw_fewest anlaw_fewest : Option Addr} {sllaw_fewest : Array (Option Value)} {oclaw_fewest kVlaw_fewest dclaw_fewest pmlaw_fewest cdlaw_fewest ctlaw_fewest : Value} {flaw_is_stuck : Addr} {odlaw_is_stuck anlaw_is_stuck : Option Addr} {sllaw_is_stuck : Array (Option Value)} {oclaw_is_stuck kVlaw_is_stuck dclaw_is_stuck pmlaw_is_stuck cdlaw_is_stuck ctlaw_is_stuck : Value} {flaw_51 : Addr} {odlaw_51 anlaw_51 : Option Addr} {sllaw_51 : Array (Option Value)} {oclaw_51 kVlaw_51 dclaw_51 pmlaw_51 cdlaw_51 ctlaw_51 : Value} {tHANDS : Tok}
    (aCDoing : PySem.W.nsIn K mainGlobals "Doing" = some (some (.ref CDoing)))
    (pgDoing : PySem.W.plainGet K CDoing Str.empty = true)
    (hdDoing : PySem.W.hasDictIn K CDoing = true)
    (poDoing : PySem.W.plainOver K CDoing = true)
    (saDoing : PySem.W.findIn K (.ref CDoing) "__setattr__" = some (some (.builtin "object.__setattr__")))
    (mkDoing : PySem.W.makesIn K CDoing = true)
    (kcDoing : PySem.W.keepIn K (.ref CDoing) = true)
    (nDoing_wheel : PySem.W.findIn K (.ref CDoing) "wheel" = some none)
    (nDoing_state : PySem.W.findIn K (.ref CDoing) "state" = some none)
    (nDoing_puts : PySem.W.findIn K (.ref CDoing) "puts" = some none)
    (nDoing_held : PySem.W.findIn K (.ref CDoing) "held" = some none)
    (nDoing_looked : PySem.W.findIn K (.ref CDoing) "looked" = some none)
    (aDoing_init : PySem.W.findIn K (.ref CDoing) "__init__" = some (some (.ref fDoing_init)))
    (iDoing_init : PySem.W.isFn K (.ref fDoing_init) = true)
    (lDoing_init : K.lookup fDoing_init = some ⟨ocDoing_init, odDoing_init, .func (PySem.W.fnOf "__init__" "Doing.__init__" (defArgs d_Doing_init.st) (defBody d_Doing_init.st) (defScope d_Doing_init.st) .none kVDoing_init dcDoing_init pmDoing_init anDoing_init cdDoing_init ctDoing_init), slDoing_init⟩)
    (cDoing_init : PySem.W.codeIn K cdDoing_init "Doing.__init__" = true)
    (kDoing_init : PySem.W.keepIn K (.ref fDoing_init) = true)
    (aDoing_now : PySem.W.findIn K (.ref CDoing) "now" = some (some (.ref fDoing_now)))
    (iDoing_now : PySem.W.isFn K (.ref fDoing_now) = true)
    (lDoing_now : K.lookup fDoing_now = some ⟨ocDoing_now, odDoing_now, .func (PySem.W.fnOf "now" "Doing.now" (defArgs d_Doing_now.st) (defBody d_Doing_now.st) (defScope d_Doing_now.st) .none kVDoing_now dcDoing_now pmDoing_now anDoing_now cdDoing_now ctDoing_now), slDoing_now⟩)
    (cDoing_now : PySem.W.codeIn K cdDoing_now "Doing.now" = true)
    (kDoing_now : PySem.W.keepIn K (.ref fDoing_now) = true)
    (aDoing_look : PySem.W.findIn K (.ref CDoing) "look" = some (some (.ref fDoing_look)))
    (iDoing_look : PySem.W.isFn K (.ref fDoing_look) = true)
    (lDoing_look : K.lookup fDoing_look = some ⟨ocDoing_look, odDoing_look, .func (PySem.W.fnOf "look" "Doing.look" (defArgs d_Doing_look.st) (defBody d_Doing_look.st) (defScope d_Doing_look.st) .none kVDoing_look dcDoing_look pmDoing_look anDoing_look cdDoing_look ctDoing_look), slDoing_look⟩)
    (cDoing_look : PySem.W.codeIn K cdDoing_look "Doing.look" = true)
    (kDoing_look : PySem.W.keepIn K (.ref fDoing_look) = true)
    (aDoing_plain : PySem.W.findIn K (.ref CDoing) "plain" = some (some (.ref fDoing_plain)))
    (iDoing_plain : PySem.W.isFn K (.ref fDoing_plain) = true)
    (lDoing_plain : K.lookup fDoing_plain = some ⟨ocDoing_plain, odDoing_plain, .func (PySem.W.fnOf "plain" "Doing.plain" (defArgs d_Doing_plain.st) (defBody d_Doing_plain.st) (defScope d_Doing_plain.st) .none kVDoing_plain dcDoing_plain pmDoing_plain anDoing_plain cdDoing_plain ctDoing_plain), slDoing_plain⟩)
    (cDoing_plain : PySem.W.codeIn K cdDoing_plain "Doing.plain" = true)
    (kDoing_plain : PySem.W.keepIn K (.ref fDoing_plain) = true)
    (aDoing_waits : PySem.W.findIn K (.ref CDoing) "waits" = some (some (.ref fDoing_waits)))
    (iDoing_waits : PySem.W.isFn K (.ref fDoing_waits) = true)
    (lDoing_waits : K.lookup fDoing_waits = some ⟨ocDoing_waits, odDoing_waits, .func (PySem.W.fnOf "waits" "Doing.waits" (defArgs d_Doing_waits.st) (defBody d_Doing_waits.st) (defScope d_Doing_waits.st) .none kVDoing_waits dcDoing_waits pmDoing_waits anDoing_waits cdDoing_waits ctDoing_waits), slDoing_waits⟩)
    (cDoing_waits : PySem.W.codeIn K cdDoing_waits "Doing.waits" = true)
    (kDoing_waits : PySem.W.keepIn K (.ref fDoing_waits) = true)
    (aDoing_tries_in_vain : PySem.W.findIn K (.ref CDoing) "tries_in_vain" = some (some (.ref fDoing_tries_in_vain)))
    (iDoing_tries_in_vain : PySem.W.isFn K (.ref fDoing_tries_in_vain) = true)
    (lDoing_tries_in_vain : K.lookup fDoing_tries_in_vain = some ⟨ocDoing_tries_in_vain, odDoing_tries_in_vain, .func (PySem.W.fnOf "tries_in_vain" "Doing.tries_in_vain" (defArgs d_Doing_tries_in_vain.st) (defBody d_Doing_tries_in_vain.st) (defScope d_Doing_tries_in_vain.st) .none kVDoing_tries_in_vain dcDoing_tries_in_vain pmDoing_tries_in_vain anDoing_tries_in_vain cdDoing_tries_in_vain ctDoing_tries_in_vain), slDoing_tries_in_vain⟩)
    (cDoing_tries_in_vain : PySem.W.codeIn K cdDoing_tries_in_vain "Doing.tries_in_vain" = true)
    (kDoing_tries_in_vain : PySem.W.keepIn K (.ref fDoing_tries_in_vain) = true)
    (aalone : PySem.W.nsIn K mainGlobals "alone" = some (some (.ref falone)))
    (lalone : K.lookup falone = some ⟨ocalone, odalone, .func (PySem.W.fnOf "alone" "alone" (defArgs d_alone.st) (defBody d_alone.st) (defScope d_alone.st) .none kValone dcalone pmalone analone cdalone ctalone), slalone⟩)
    (calone : PySem.W.codeIn K cdalone "alone" = true)
    (kalone : PySem.W.keepIn K (.ref falone) = true)
    (anext_rows : PySem.W.nsIn K mainGlobals "next_rows" = some (some (.ref fnext_rows)))
    (lnext_rows : K.lookup fnext_rows = some ⟨ocnext_rows, odnext_rows, .func (PySem.W.fnOf "next_rows" "next_rows" (defArgs d_next_rows.st) (defBody d_next_rows.st) (defScope d_next_rows.st) .none kVnext_rows dcnext_rows pmnext_rows annext_rows cdnext_rows ctnext_rows), slnext_rows⟩)
    (cnext_rows : PySem.W.codeIn K cdnext_rows "next_rows" = true)
    (knext_rows : PySem.W.keepIn K (.ref fnext_rows) = true)
    (aorder_to_2 : PySem.W.nsIn K mainGlobals "order_to" = some (some (.ref forder_to_2)))
    (lorder_to_2 : K.lookup forder_to_2 = some ⟨ocorder_to_2, odorder_to_2, .func (PySem.W.fnOf "order_to" "order_to" (defArgs d_order_to_2.st) (defBody d_order_to_2.st) (defScope d_order_to_2.st) .none kVorder_to_2 dcorder_to_2 pmorder_to_2 anorder_to_2 cdorder_to_2 ctorder_to_2), slorder_to_2⟩)
    (corder_to_2 : PySem.W.codeIn K cdorder_to_2 "order_to" = true)
    (korder_to_2 : PySem.W.keepIn K (.ref forder_to_2) = true)
    (aall_rows : PySem.W.nsIn K mainGlobals "all_rows" = some (some (.ref fall_rows)))
    (lall_rows : K.lookup fall_rows = some ⟨ocall_rows, odall_rows, .func (PySem.W.fnOf "all_rows" "all_rows" (defArgs d_all_rows.st) (defBody d_all_rows.st) (defScope d_all_rows.st) .none kVall_rows dcall_rows pmall_rows anall_rows cdall_rows ctall_rows), slall_rows⟩)
    (call_rows : PySem.W.codeIn K cdall_rows "all_rows" = true)
    (kall_rows : PySem.W.keepIn K (.ref fall_rows) = true)
    (ais_stuck : PySem.W.nsIn K mainGlobals "is_stuck" = some (some (.ref fis_stuck)))
    (lis_stuck : K.lookup fis_stuck = some ⟨ocis_stuck, odis_stuck, .func (PySem.W.fnOf "is_stuck" "is_stuck" (defArgs d_is_stuck.st) (defBody d_is_stuck.st) (defScope d_is_stuck.st) .none kVis_stuck dcis_stuck pmis_stuck anis_stuck cdis_stuck ctis_stuck), slis_stuck⟩)
    (cis_stuck : PySem.W.codeIn K cdis_stuck "is_stuck" = true)
    (kis_stuck : PySem.W.keepIn K (.ref fis_stuck) = true)
    (astuck : PySem.W.nsIn K mainGlobals "stuck" = some (some (.ref fstuck)))
    (lstuck : K.lookup fstuck = some ⟨ocstuck, odstuck, .func (PySem.W.fnOf "stuck" "stuck" (defArgs d_stuck.st) (defBody d_stuck.st) (defScope d_stuck.st) .none kVstuck dcstuck pmstuck anstuck cdstuck ctstuck), slstuck⟩)
    (cstuck : PySem.W.codeIn K cdstuck "stuck" = true)
    (kstuck : PySem.W.keepIn K (.ref fstuck) = true)
    (alaw_pen : PySem.W.nsIn K mainGlobals "_law_pen" = some (some (.ref flaw_pen)))
    (llaw_pen : K.lookup flaw_pen = some ⟨oclaw_pen, odlaw_pen, .func (PySem.W.fnOf "_law_pen" "_law_pen" (defArgs d_law_pen.st) (defBody d_law_pen.st) (defScope d_law_pen.st) .none kVlaw_pen dclaw_pen pmlaw_pen anlaw_pen cdlaw_pen ctlaw_pen), sllaw_pen⟩)
    (claw_pen : PySem.W.codeIn K cdlaw_pen "_law_pen" = true)
    (klaw_pen : PySem.W.keepIn K (.ref flaw_pen) = true)
    (alaw_take : PySem.W.nsIn K mainGlobals "_law_take" = some (some (.ref flaw_take)))
    (llaw_take : K.lookup flaw_take = some ⟨oclaw_take, odlaw_take, .func (PySem.W.fnOf "_law_take" "_law_take" (defArgs d_law_take.st) (defBody d_law_take.st) (defScope d_law_take.st) .none kVlaw_take dclaw_take pmlaw_take anlaw_take cdlaw_take ctlaw_take), sllaw_take⟩)
    (claw_take : PySem.W.codeIn K cdlaw_take "_law_take" = true)
    (klaw_take : PySem.W.keepIn K (.ref flaw_take) = true)
    (alaw_world : PySem.W.nsIn K mainGlobals "_law_world" = some (some (.ref flaw_world)))
    (llaw_world : K.lookup flaw_world = some ⟨oclaw_world, odlaw_world, .func (PySem.W.fnOf "_law_world" "_law_world" (defArgs d_law_world.st) (defBody d_law_world.st) (defScope d_law_world.st) .none kVlaw_world dclaw_world pmlaw_world anlaw_world cdlaw_world ctlaw_world), sllaw_world⟩)
    (claw_world : PySem.W.codeIn K cdlaw_world "_law_world" = true)
    (klaw_world : PySem.W.keepIn K (.ref flaw_world) = true)
    (alaw_size : PySem.W.nsIn K mainGlobals "_law_size" = some (some (.ref flaw_size)))
    (llaw_size : K.lookup flaw_size = some ⟨oclaw_size, odlaw_size, .func (PySem.W.fnOf "_law_size" "_law_size" (defArgs d_law_size.st) (defBody d_law_size.st) (defScope d_law_size.st) .none kVlaw_size dclaw_size pmlaw_size anlaw_size cdlaw_size ctlaw_size), sllaw_size⟩)
    (claw_size : PySem.W.codeIn K cdlaw_size "_law_size" = true)
    (klaw_size : PySem.W.keepIn K (.ref flaw_size) = true)
    (alaw_plain_deed : PySem.W.nsIn K mainGlobals "_law_plain_deed" = some (some (.ref flaw_plain_deed)))
    (llaw_plain_deed : K.lookup flaw_plain_deed = some ⟨oclaw_plain_deed, odlaw_plain_deed, .func (PySem.W.fnOf "_law_plain_deed" "_law_plain_deed" (defArgs d_law_plain_deed.st) (defBody d_law_plain_deed.st) (defScope d_law_plain_deed.st) .none kVlaw_plain_deed dclaw_plain_deed pmlaw_plain_deed anlaw_plain_deed cdlaw_plain_deed ctlaw_plain_deed), sllaw_plain_deed⟩)
    (claw_plain_deed : PySem.W.codeIn K cdlaw_plain_deed "_law_plain_deed" = true)
    (klaw_plain_deed : PySem.W.keepIn K (.ref flaw_plain_deed) = true)
    (alaw_dealing : PySem.W.nsIn K mainGlobals "_law_dealing" = some (some (.ref flaw_dealing)))
    (llaw_dealing : K.lookup flaw_dealing = some ⟨oclaw_dealing, odlaw_dealing, .func (PySem.W.fnOf "_law_dealing" "_law_dealing" (defArgs d_law_dealing.st) (defBody d_law_dealing.st) (defScope d_law_dealing.st) .none kVlaw_dealing dclaw_dealing pmlaw_dealing anlaw_dealing cdlaw_dealing ctlaw_dealing), sllaw_dealing⟩)
    (claw_dealing : PySem.W.codeIn K cdlaw_dealing "_law_dealing" = true)
    (klaw_dealing : PySem.W.keepIn K (.ref flaw_dealing) = true)
    (alaw_plain : PySem.W.nsIn K mainGlobals "_law_plain" = some (some (.ref flaw_plain)))
    (llaw_plain : K.lookup flaw_plain = some ⟨oclaw_plain, odlaw_plain, .func (PySem.W.fnOf "_law_plain" "_law_plain" (defArgs d_law_plain.st) (defBody d_law_plain.st) (defScope d_law_plain.st) .none kVlaw_plain dclaw_plain pmlaw_plain anlaw_plain cdlaw_plain ctlaw_plain), sllaw_plain⟩)
    (claw_plain : PySem.W.codeIn K cdlaw_plain "_law_plain" = true)
    (klaw_plain : PySem.W.keepIn K (.ref flaw_plain) = true)
    (alaw_waits : PySem.W.nsIn K mainGlobals "_law_waits" = some (some (.ref flaw_waits)))
    (llaw_waits : K.lookup flaw_waits = some ⟨oclaw_waits, odlaw_waits, .func (PySem.W.fnOf "_law_waits" "_law_waits" (defArgs d_law_waits.st) (defBody d_law_waits.st) (defScope d_law_waits.st) .none kVlaw_waits dclaw_waits pmlaw_waits anlaw_waits cdlaw_waits ctlaw_waits), sllaw_waits⟩)
    (claw_waits : PySem.W.codeIn K cdlaw_waits "_law_waits" = true)
    (klaw_waits : PySem.W.keepIn K (.ref flaw_waits) = true)
    (alaw_alone : PySem.W.nsIn K mainGlobals "_law_alone" = some (some (.ref flaw_alone)))
    (llaw_alone : K.lookup flaw_alone = some ⟨oclaw_alone, odlaw_alone, .func (PySem.W.fnOf "_law_alone" "_law_alone" (defArgs d_law_alone.st) (defBody d_law_alone.st) (defScope d_law_alone.st) .none kVlaw_alone dclaw_alone pmlaw_alone anlaw_alone cdlaw_alone ctlaw_alone), sllaw_alone⟩)
    (claw_alone : PySem.W.codeIn K cdlaw_alone "_law_alone" = true)
    (klaw_alone : PySem.W.keepIn K (.ref flaw_alone) = true)
    (alaw_keen : PySem.W.nsIn K mainGlobals "_law_keen" = some (some (.ref flaw_keen)))
    (llaw_keen : K.lookup flaw_keen = some ⟨oclaw_keen, odlaw_keen, .func (PySem.W.fnOf "_law_keen" "_law_keen" (defArgs d_law_keen.st) (defBody d_law_keen.st) (defScope d_law_keen.st) .none kVlaw_keen dclaw_keen pmlaw_keen anlaw_keen cdlaw_keen ctlaw_keen), sllaw_keen⟩)
    (claw_keen : PySem.W.codeIn K cdlaw_keen "_law_keen" = true)
    (klaw_keen : PySem.W.keepIn K (.ref flaw_keen) = true)
    (alaw_some_dealings : PySem.W.nsIn K mainGlobals "_law_some_dealings" = some (some (.ref flaw_some_dealings)))
    (llaw_some_dealings : K.lookup flaw_some_dealings = some ⟨oclaw_some_dealings, odlaw_some_dealings, .func (PySem.W.fnOf "_law_some_dealings" "_law_some_dealings" (defArgs d_law_some_dealings.st) (defBody d_law_some_dealings.st) (defScope d_law_some_dealings.st) .none kVlaw_some_dealings dclaw_some_dealings pmlaw_some_dealings anlaw_some_dealings cdlaw_some_dealings ctlaw_some_dealings), sllaw_some_dealings⟩)
    (claw_some_dealings : PySem.W.codeIn K cdlaw_some_dealings "_law_some_dealings" = true)
    (klaw_some_dealings : PySem.W.keepIn K (.ref flaw_some_dealings) = true)
    (alaw_few_state : PySem.W.nsIn K mainGlobals "_law_few_state" = some (some (.ref flaw_few_state)))
    (llaw_few_state : K.lookup flaw_few_state = some ⟨oclaw_few_state, odlaw_few_state, .func (PySem.W.fnOf "_law_few_state" "_law_few_state" (defArgs d_law_few_state.st) (defBody d_law_few_state.st) (defScope d_law_few_state.st) .none kVlaw_few_state dclaw_few_state pmlaw_few_state anlaw_few_state cdlaw_few_state ctlaw_few_state), sllaw_few_state⟩)
    (claw_few_state : PySem.W.codeIn K cdlaw_few_state "_law_few_state" = true)
    (klaw_few_state : PySem.W.keepIn K (.ref flaw_few_state) = true)
    (alaw_next_3 : PySem.W.nsIn K mainGlobals "_law_next" = some (some (.ref flaw_next_3)))
    (llaw_next_3 : K.lookup flaw_next_3 = some ⟨oclaw_next_3, odlaw_next_3, .func (PySem.W.fnOf "_law_next" "_law_next" (defArgs d_law_next_3.st) (defBody d_law_next_3.st) (defScope d_law_next_3.st) .none kVlaw_next_3 dclaw_next_3 pmlaw_next_3 anlaw_next_3 cdlaw_next_3 ctlaw_next_3), sllaw_next_3⟩)
    (claw_next_3 : PySem.W.codeIn K cdlaw_next_3 "_law_next" = true)
    (klaw_next_3 : PySem.W.keepIn K (.ref flaw_next_3) = true)
    (alaw_rows : PySem.W.nsIn K mainGlobals "_law_rows" = some (some (.ref flaw_rows)))
    (llaw_rows : K.lookup flaw_rows = some ⟨oclaw_rows, odlaw_rows, .func (PySem.W.fnOf "_law_rows" "_law_rows" (defArgs d_law_rows.st) (defBody d_law_rows.st) (defScope d_law_rows.st) .none kVlaw_rows dclaw_rows pmlaw_rows anlaw_rows cdlaw_rows ctlaw_rows), sllaw_rows⟩)
    (claw_rows : PySem.W.codeIn K cdlaw_rows "_law_rows" = true)
    (klaw_rows : PySem.W.keepIn K (.ref flaw_rows) = true)
    (alaw_fewest : PySem.W.nsIn K mainGlobals "_law_fewest" = some (some (.ref flaw_fewest)))
    (llaw_fewest : K.lookup flaw_fewest = some ⟨oclaw_fewest, odlaw_fewest, .func (PySem.W.fnOf "_law_fewest" "_law_fewest" (defArgs d_law_fewest.st) (defBody d_law_fewest.st) (defScope d_law_fewest.st) .none kVlaw_fewest dclaw_fewest pmlaw_fewest anlaw_fewest cdlaw_fewest ctlaw_fewest), sllaw_fewest⟩)
    (claw_fewest : PySem.W.codeIn K cdlaw_fewest "_law_fewest" = true)
    (klaw_fewest : PySem.W.keepIn K (.ref flaw_fewest) = true)
    (alaw_is_stuck : PySem.W.nsIn K mainGlobals "_law_is_stuck" = some (some (.ref flaw_is_stuck)))
    (llaw_is_stuck : K.lookup flaw_is_stuck = some ⟨oclaw_is_stuck, odlaw_is_stuck, .func (PySem.W.fnOf "_law_is_stuck" "_law_is_stuck" (defArgs d_law_is_stuck.st) (defBody d_law_is_stuck.st) (defScope d_law_is_stuck.st) .none kVlaw_is_stuck dclaw_is_stuck pmlaw_is_stuck anlaw_is_stuck cdlaw_is_stuck ctlaw_is_stuck), sllaw_is_stuck⟩)
    (claw_is_stuck : PySem.W.codeIn K cdlaw_is_stuck "_law_is_stuck" = true)
    (klaw_is_stuck : PySem.W.keepIn K (.ref flaw_is_stuck) = true)
    (alaw_51 : PySem.W.nsIn K mainGlobals "law" = some (some (.ref flaw_51)))
    (llaw_51 : K.lookup flaw_51 = some ⟨oclaw_51, odlaw_51, .func (PySem.W.fnOf "law" "law" (defArgs d_law_51.st) (defBody d_law_51.st) (defScope d_law_51.st) .none kVlaw_51 dclaw_51 pmlaw_51 anlaw_51 cdlaw_51 ctlaw_51), sllaw_51⟩)
    (claw_51 : PySem.W.codeIn K cdlaw_51 "law" = true)
    (klaw_51 : PySem.W.keepIn K (.ref flaw_51) = true)
    (gHANDS : PySem.W.nsIn K mainGlobals "HANDS" = some (some (.int 4 tHANDS)))
    (b_len : PySem.W.nsIn K mainGlobals "len" = some none)
    (b_int : PySem.W.nsIn K mainGlobals "int" = some none)
    (b_str : PySem.W.nsIn K mainGlobals "str" = some none)
    (b_list : PySem.W.nsIn K mainGlobals "list" = some none)
    (b_tuple : PySem.W.nsIn K mainGlobals "tuple" = some none)
    (b_sorted : PySem.W.nsIn K mainGlobals "sorted" = some none)
    (b_all : PySem.W.nsIn K mainGlobals "all" = some none)
    (b_any : PySem.W.nsIn K mainGlobals "any" = some none)
    (b_min : PySem.W.nsIn K mainGlobals "min" = some none)
    (b_max : PySem.W.nsIn K mainGlobals "max" = some none)
    (b_range : PySem.W.nsIn K mainGlobals "range" = some none)
    (b_enumerate : PySem.W.nsIn K mainGlobals "enumerate" = some none)
    (b_zip : PySem.W.nsIn K mainGlobals "zip" = some none)
    (b_isinstance : PySem.W.nsIn K mainGlobals "isinstance" = some none)
    (b_bool : PySem.W.nsIn K mainGlobals "bool" = some none)
    (b_dict : PySem.W.nsIn K mainGlobals "dict" = some none)
    (b_sum : PySem.W.nsIn K mainGlobals "sum" = some none)
    (b_set : PySem.W.nsIn K mainGlobals "set" = some none)
    (h2 : Holds2 inf 345) :
    ∃ fd : FuncData, (∀ (s : Shared) (v : Value), BindsTo s fd ⟨[v], []⟩ [("script", v)]) ∧ ∀ base : Heap, K.In base → base.Ns mainGlobals mg → FnOk l.prog w K mg base CX0 200 fa fd ["script"] (spLaw K) := by
  have e := hfa.symm.trans (PySem.W.mg_of KX G alaw_51)
  cases e
  let adr : Nat → Addr := fun i => if i = 1 then CDoing else 0
  have clsDoing : Cls K CDoing := ⟨pgDoing, hdDoing, poDoing, saDoing⟩
  have uDoing_init := at_meth (L := inf) (mg := mg) (adr := adr) (d := d_Doing_init) (ci := 1) rfl rfl clsDoing (by decide +kernel) aDoing_init iDoing_init lDoing_init cDoing_init kDoing_init (fun _ _ _ _ _ _ us hl => match us, hl with | [_, _, _], _ => rfl)
  have uDoing_now := at_meth (L := inf) (mg := mg) (adr := adr) (d := d_Doing_now) (ci := 1) rfl rfl clsDoing (by decide +kernel) aDoing_now iDoing_now lDoing_now cDoing_now kDoing_now (fun _ _ _ _ _ _ us hl => match us, hl with | [_], _ => rfl)
  have uDoing_look := at_meth (L := inf) (mg := mg) (adr := adr) (d := d_Doing_look) (ci := 1) rfl rfl clsDoing (by decide +kernel) aDoing_look iDoing_look lDoing_look cDoing_look kDoing_look (fun _ _ _ _ _ _ us hl => match us, hl with | [_, _, _], _ => rfl)
  have uDoing_plain := at_meth (L := inf) (mg := mg) (adr := adr) (d := d_Doing_plain) (ci := 1) rfl rfl clsDoing (by decide +kernel) aDoing_plain iDoing_plain lDoing_plain cDoing_plain kDoing_plain (fun _ _ _ _ _ _ us hl => match us, hl with | [_, _], _ => rfl)
  have uDoing_waits := at_meth (L := inf) (mg := mg) (adr := adr) (d := d_Doing_waits) (ci := 1) rfl rfl clsDoing (by decide +kernel) aDoing_waits iDoing_waits lDoing_waits cDoing_waits kDoing_waits (fun _ _ _ _ _ _ us hl => match us, hl with | [_, _], _ => rfl)
  have uDoing_tries_in_vain := at_meth (L := inf) (mg := mg) (adr := adr) (d := d_Doing_tries_in_vain) (ci := 1) rfl rfl clsDoing (by decide +kernel) aDoing_tries_in_vain iDoing_tries_in_vain lDoing_tries_in_vain cDoing_tries_in_vain kDoing_tries_in_vain (fun _ _ _ _ _ _ us hl => match us, hl with | [_, _, _], _ => rfl)
  have ualone := at_fun (L := inf) (adr := adr) (d := d_alone) rfl KX G rfl aalone lalone calone kalone (fun _ _ _ _ _ _ us hl => match us, hl with | [_, _, _], _ => rfl)
  have unext_rows := at_fun (L := inf) (adr := adr) (d := d_next_rows) rfl KX G rfl anext_rows lnext_rows cnext_rows knext_rows (fun _ _ _ _ _ _ us hl => match us, hl with | [_, _, _], _ => rfl)
  have uorder_to_2 := at_fun (L := inf) (adr := adr) (d := d_order_to_2) rfl KX G rfl aorder_to_2 lorder_to_2 corder_to_2 korder_to_2 (fun _ _ _ _ _ _ us hl => match us, hl with | [_, _], _ => rfl)
  have uall_rows := at_fun (L := inf) (adr := adr) (d := d_all_rows) rfl KX G rfl aall_rows lall_rows call_rows kall_rows (fun _ _ _ _ _ _ us hl => match us, hl with | [_, _, _], _ => rfl)
  have uis_stuck := at_fun (L := inf) (adr := adr) (d := d_is_stuck) rfl KX G rfl ais_stuck lis_stuck cis_stuck kis_stuck (fun _ _ _ _ _ _ us hl => match us, hl with | [_, _, _], _ => rfl)
  have ustuck := at_fun (L := inf) (adr := adr) (d := d_stuck) rfl KX G rfl astuck lstuck cstuck kstuck (fun _ _ _ _ _ _ us hl => match us, hl with | [_, _, _], _ => rfl)
  have ulaw_pen := at_fun (L := inf) (adr := adr) (d := d_law_pen) rfl KX G rfl alaw_pen llaw_pen claw_pen klaw_pen (fun _ _ _ _ _ _ us hl => match us, hl with | [_], _ => rfl)
  have ulaw_take := at_fun (L := inf) (adr := adr) (d := d_law_take) rfl KX G rfl alaw_take llaw_take claw_take klaw_take (fun _ _ _ _ _ _ us hl => match us, hl with | [_, _], _ => rfl)
  have ulaw_world := at_fun (L := inf) (adr := adr) (d := d_law_world) rfl KX G rfl alaw_world llaw_world claw_world klaw_world (fun _ _ _ _ _ _ us hl => match us, hl with | [_], _ => rfl)
  have ulaw_size := at_fun (L := inf) (adr := adr) (d := d_law_size) rfl KX G rfl alaw_size llaw_size claw_size klaw_size (fun _ _ _ _ _ _ us hl => match us, hl with | [_], _ => rfl)
  have ulaw_plain_deed := at_fun (L := inf) (adr := adr) (d := d_law_plain_deed) rfl KX G rfl alaw_plain_deed llaw_plain_deed claw_plain_deed klaw_plain_deed (fun _ _ _ _ _ _ us hl => match us, hl with | [_, _, _, _], _ => rfl)
  have ulaw_dealing := at_fun (L := inf) (adr := adr) (d := d_law_dealing) rfl KX G rfl alaw_dealing llaw_dealing claw_dealing klaw_dealing (fun _ _ _ _ _ _ us hl => match us, hl with | [_, _, _, _], _ => rfl)
  have ulaw_plain := at_fun (L := inf) (adr := adr) (d := d_law_plain) rfl KX G rfl alaw_plain llaw_plain claw_plain klaw_plain (fun _ _ _ _ _ _ us hl => match us, hl with | [_, _, _], _ => rfl)
  have ulaw_waits := at_fun (L := inf) (adr := adr) (d := d_law_waits) rfl KX G rfl alaw_waits llaw_waits claw_waits klaw_waits (fun _ _ _ _ _ _ us hl => match us, hl with | [_, _, _], _ => rfl)
  have ulaw_alone := at_fun (L := inf) (adr := adr) (d := d_law_alone) rfl KX G rfl alaw_alone llaw_alone claw_alone klaw_alone (fun _ _ _ _ _ _ us hl => match us, hl with | [_, _, _], _ => rfl)
  have ulaw_keen := at_fun (L := inf) (adr := adr) (d := d_law_keen) rfl KX G rfl alaw_keen llaw_keen claw_keen klaw_keen (fun _ _ _ _ _ _ us hl => match us, hl with | [_, _], _ => rfl)
  have ulaw_some_dealings := at_fun (L := inf) (adr := adr) (d := d_law_some_dealings) rfl KX G rfl alaw_some_dealings llaw_some_dealings claw_some_dealings klaw_some_dealings (fun _ _ _ _ _ _ us hl => match us, hl with | [_, _, _], _ => rfl)
  have ulaw_few_state := at_fun (L := inf) (adr := adr) (d := d_law_few_state) rfl KX G rfl alaw_few_state llaw_few_state claw_few_state klaw_few_state (fun _ _ _ _ _ _ us hl => match us, hl with | [_, _], _ => rfl)
  have ulaw_next_3 := at_fun (L := inf) (adr := adr) (d := d_law_next_3) rfl KX G rfl alaw_next_3 llaw_next_3 claw_next_3 klaw_next_3 (fun _ _ _ _ _ _ us hl => match us, hl with | [_, _, _], _ => rfl)
  have ulaw_rows := at_fun (L := inf) (adr := adr) (d := d_law_rows) rfl KX G rfl alaw_rows llaw_rows claw_rows klaw_rows (fun _ _ _ _ _ _ us hl => match us, hl with | [_, _, _], _ => rfl)
  have ulaw_fewest := at_fun (L := inf) (adr := adr) (d := d_law_fewest) rfl KX G rfl alaw_fewest llaw_fewest claw_fewest klaw_fewest (fun _ _ _ _ _ _ us hl => match us, hl with | [_, _, _], _ => rfl)
  have ulaw_is_stuck := at_fun (L := inf) (adr := adr) (d := d_law_is_stuck) rfl KX G rfl alaw_is_stuck llaw_is_stuck claw_is_stuck klaw_is_stuck (fun _ _ _ _ _ _ us hl => match us, hl with | [_, _, _, _], _ => rfl)
  have ulaw_51 := at_fun (L := inf) (adr := adr) (d := d_law_51) rfl KX G rfl alaw_51 llaw_51 claw_51 klaw_51 (fun _ _ _ _ _ _ us hl => match us, hl with | [_], _ => rfl)
  have X : Facts inf K mg adr w := by
    refine ⟨fun d hd => ?_, fun c hc => ?_, fun g hg => ?_, blt_of KX G b_len b_int b_str b_list b_tuple b_sorted b_all b_any b_min b_max b_range b_enumerate b_zip b_isinstance b_bool b_dict b_sum b_set⟩
    · have hd : d ∈ [d_Doing_init, d_Doing_now, d_Doing_look, d_Doing_plain, d_Doing_waits, d_Doing_tries_in_vain, d_alone, d_next_rows, d_order_to_2, d_all_rows, d_is_stuck, d_stuck, d_law_pen, d_law_take, d_law_world, d_law_size, d_law_plain_deed, d_law_dealing, d_law_plain, d_law_waits, d_law_alone, d_law_keen, d_law_some_dealings, d_law_few_state, d_law_next_3, d_law_rows, d_law_fewest, d_law_is_stuck, d_law_51] := hd
      simp only [List.mem_cons, List.not_mem_nil, or_false] at hd
      rcases hd with rfl | rfl | rfl | rfl | rfl | rfl | rfl | rfl | rfl | rfl | rfl | rfl | rfl | rfl | rfl | rfl | rfl | rfl | rfl | rfl | rfl | rfl | rfl | rfl | rfl | rfl | rfl | rfl | rfl
      · exact ⟨_, _, uDoing_init⟩
      · exact ⟨_, _, uDoing_now⟩
      · exact ⟨_, _, uDoing_look⟩
      · exact ⟨_, _, uDoing_plain⟩
      · exact ⟨_, _, uDoing_waits⟩
      · exact ⟨_, _, uDoing_tries_in_vain⟩
      · exact ⟨_, _, ualone⟩
      · exact ⟨_, _, unext_rows⟩
      · exact ⟨_, _, uorder_to_2⟩
      · exact ⟨_, _, uall_rows⟩
      · exact ⟨_, _, uis_stuck⟩
      · exact ⟨_, _, ustuck⟩
      · exact ⟨_, _, ulaw_pen⟩
      · exact ⟨_, _, ulaw_take⟩
      · exact ⟨_, _, ulaw_world⟩
      · exact ⟨_, _, ulaw_size⟩
      · exact ⟨_, _, ulaw_plain_deed⟩
      · exact ⟨_, _, ulaw_dealing⟩
      · exact ⟨_, _, ulaw_plain⟩
      · exact ⟨_, _, ulaw_waits⟩
      · exact ⟨_, _, ulaw_alone⟩
      · exact ⟨_, _, ulaw_keen⟩
      · exact ⟨_, _, ulaw_some_dealings⟩
      · exact ⟨_, _, ulaw_few_state⟩
      · exact ⟨_, _, ulaw_next_3⟩
      · exact ⟨_, _, ulaw_rows⟩
      · exact ⟨_, _, ulaw_fewest⟩
      · exact ⟨_, _, ulaw_is_stuck⟩
      · exact ⟨_, _, ulaw_51⟩
    · have hc : c ∈ ([c_Doing] : List ClsI) := hc
      simp only [List.mem_cons, List.not_mem_nil, or_false] at hc
      rcases hc with rfl
      · refine ⟨⟨clsDoing, (show (["wheel", "state", "puts", "held", "looked"] : List Str).Nodup by decide +kernel), (show (["wheel", "state", "puts", "held", "looked"] : List Str).length ≤ 50 by decide), fun f hf => ?_⟩, mkDoing, kcDoing, PySem.W.mg_of KX G aCDoing⟩
        have hf : f ∈ (["wheel", "state", "puts", "held", "looked"] : List Str) := hf
        simp only [List.mem_cons, List.not_mem_nil, or_false] at hf
        rcases hf with rfl | rfl | rfl | rfl | rfl
        · exact nDoing_wheel
        · exact nDoing_state
        · exact nDoing_puts
        · exact nDoing_held
        · exact nDoing_looked
    · have hg : g ∈ ([g_HANDS] : List (Nat × Str × Vx)) := hg
      simp only [List.mem_cons, List.not_mem_nil, or_false] at hg
      rcases hg with rfl
      · exact gl_int KX G gHANDS
  exact ⟨_, fun s v => .of_eq rfl, fun base _ _ => law_ok inf_chk X (show d_law_51 ∈ [d_Doing_init, d_Doing_now, d_Doing_look, d_Doing_plain, d_Doing_waits, d_Doing_tries_in_vain, d_alone, d_next_rows, d_order_to_2, d_all_rows, d_is_stuck, d_stuck, d_law_pen, d_law_take, d_law_world, d_law_size, d_law_plain_deed, d_law_dealing, d_law_plain, d_law_waits, d_law_alone, d_law_keen, d_law_some_dealings, d_law_few_state, d_law_next_3, d_law_rows, d_law_fewest, d_law_is_stuck, d_law_51] by simp only [List.mem_cons, true_or, or_true]) rfl h2 ulaw_51⟩
end LW
open PySem PySem.W PyProof.Rows in
set_option maxRecDepth 100000 in
set_option maxHeartbeats 0 in
theorem PySem.Challenge.cw_oneglance_k55_stuck_or_free_holds : PySem.Challenge.rw_oneglance_k55_stuck_or_free.Holds := by
  w_on; o_law; k_head; (case hw => w_witness2)
  k_fill
  refine DL.walk (l := PySem.Challenge.rw_oneglance_k55_stuck_or_free) rfl rfl (fun w h Y => PySem.W.kIn_of Y) ?F
  case F =>
    intro w mg fa h KX G hmg
    refine' LW.facts KX G hmg ?aCDoing ?pgDoing ?hdDoing ?poDoing ?saDoing ?mkDoing ?kcDoing ?nDoing_wheel ?nDoing_state ?nDoing_puts ?nDoing_held ?nDoing_looked ?aDoing_init ?iDoing_init ?lDoing_init ?cDoing_init ?kDoing_init ?aDoing_now ?iDoing_now ?lDoing_now ?cDoing_now ?kDoing_now ?aDoing_look ?iDoing_look ?lDoing_look ?cDoing_look ?kDoing_look ?aDoing_plain ?iDoing_plain ?lDoing_plain ?cDoing_plain ?kDoing_plain ?aDoing_waits ?iDoing_waits ?lDoing_waits ?cDoing_waits ?kDoing_waits ?aDoing_tries_in_vain ?iDoing_tries_in_vain ?lDoing_tries_in_vain ?cDoing_tries_in_vain ?kDoing_tries_in_vain ?aalone ?lalone ?calone ?kalone ?anext_rows ?lnext_rows ?cnext_rows ?knext_rows ?aorder_to_2 ?lorder_to_2 ?corder_to_2 ?korder_to_2 ?aall_rows ?lall_rows ?call_rows ?kall_rows ?ais_stuck ?lis_stuck ?cis_stuck ?kis_stuck ?astuck ?lstuck ?cstuck ?kstuck ?alaw_pen ?llaw_pen ?claw_pen ?klaw_pen ?alaw_take ?llaw_take ?claw_take ?klaw_take ?alaw_world ?llaw_world ?claw_world ?klaw_world ?alaw_size ?llaw_size ?claw_size ?klaw_size ?alaw_plain_deed ?llaw_plain_deed ?claw_plain_deed ?klaw_plain_deed ?alaw_dealing ?llaw_dealing ?claw_dealing ?klaw_dealing ?alaw_plain ?llaw_plain ?claw_plain ?klaw_plain ?alaw_waits ?llaw_waits ?claw_waits ?klaw_waits ?alaw_alone ?llaw_alone ?claw_alone ?klaw_alone ?alaw_keen ?llaw_keen ?claw_keen ?klaw_keen ?alaw_some_dealings ?llaw_some_dealings ?claw_some_dealings ?klaw_some_dealings ?alaw_few_state ?llaw_few_state ?claw_few_state ?klaw_few_state ?alaw_next_3 ?llaw_next_3 ?claw_next_3 ?klaw_next_3 ?alaw_rows ?llaw_rows ?claw_rows ?klaw_rows ?alaw_fewest ?llaw_fewest ?claw_fewest ?klaw_fewest ?alaw_is_stuck ?llaw_is_stuck ?claw_is_stuck ?klaw_is_stuck ?alaw_51 ?llaw_51 ?claw_51 ?klaw_51 ?gHANDS ?b_len ?b_int ?b_str ?b_list ?b_tuple ?b_sorted ?b_all ?b_any ?b_min ?b_max ?b_range ?b_enumerate ?b_zip ?b_isinstance ?b_bool ?b_dict ?b_sum ?b_set LW.law2
    (case aCDoing => k_is)
    (case pgDoing => k_is)
    (case hdDoing => k_is)
    (case poDoing => k_is)
    (case saDoing => k_is)
    (case mkDoing => k_is)
    (case kcDoing => k_is)
    (case nDoing_wheel => k_is)
    (case nDoing_state => k_is)
    (case nDoing_puts => k_is)
    (case nDoing_held => k_is)
    (case nDoing_looked => k_is)
    (case aDoing_init => k_is)
    (case iDoing_init => k_is)
    (case lDoing_init => k_is)
    (case cDoing_init => k_is)
    (case kDoing_init => k_is)
    (case aDoing_now => k_is)
    (case iDoing_now => k_is)
    (case lDoing_now => k_is)
    (case cDoing_now => k_is)
    (case kDoing_now => k_is)
    (case aDoing_look => k_is)
    (case iDoing_look => k_is)
    (case lDoing_look => k_is)
    (case cDoing_look => k_is)
    (case kDoing_look => k_is)
    (case aDoing_plain => k_is)
    (case iDoing_plain => k_is)
    (case lDoing_plain => k_is)
    (case cDoing_plain => k_is)
    (case kDoing_plain => k_is)
    (case aDoing_waits => k_is)
    (case iDoing_waits => k_is)
    (case lDoing_waits => k_is)
    (case cDoing_waits => k_is)
    (case kDoing_waits => k_is)
    (case aDoing_tries_in_vain => k_is)
    (case iDoing_tries_in_vain => k_is)
    (case lDoing_tries_in_vain => k_is)
    (case cDoing_tries_in_vain => k_is)
    (case kDoing_tries_in_vain => k_is)
    (case aalone => k_is)
    (case lalone => k_is)
    (case calone => k_is)
    (case kalone => k_is)
    (case anext_rows => k_is)
    (case lnext_rows => k_is)
    (case cnext_rows => k_is)
    (case knext_rows => k_is)
    (case aorder_to_2 => k_is)
    (case lorder_to_2 => k_is)
    (case corder_to_2 => k_is)
    (case korder_to_2 => k_is)
    (case aall_rows => k_is)
    (case lall_rows => k_is)
    (case call_rows => k_is)
    (case kall_rows => k_is)
    (case ais_stuck => k_is)
    (case lis_stuck => k_is)
    (case cis_stuck => k_is)
    (case kis_stuck => k_is)
    (case astuck => k_is)
    (case lstuck => k_is)
    (case cstuck => k_is)
    (case kstuck => k_is)
    (case alaw_pen => k_is)
    (case llaw_pen => k_is)
    (case claw_pen => k_is)
    (case klaw_pen => k_is)
    (case alaw_take => k_is)
    (case llaw_take => k_is)
    (case claw_take => k_is)
    (case klaw_take => k_is)
    (case alaw_world => k_is)
    (case llaw_world => k_is)
    (case claw_world => k_is)
    (case klaw_world => k_is)
    (case alaw_size => k_is)
    (case llaw_size => k_is)
    (case claw_size => k_is)
    (case klaw_size => k_is)
    (case alaw_plain_deed => k_is)
    (case llaw_plain_deed => k_is)
    (case claw_plain_deed => k_is)
    (case klaw_plain_deed => k_is)
    (case alaw_dealing => k_is)
    (case llaw_dealing => k_is)
    (case claw_dealing => k_is)
    (case klaw_dealing => k_is)
    (case alaw_plain => k_is)
    (case llaw_plain => k_is)
    (case claw_plain => k_is)
    (case klaw_plain => k_is)
    (case alaw_waits => k_is)
    (case llaw_waits => k_is)
    (case claw_waits => k_is)
    (case klaw_waits => k_is)
    (case alaw_alone => k_is)
    (case llaw_alone => k_is)
    (case claw_alone => k_is)
    (case klaw_alone => k_is)
    (case alaw_keen => k_is)
    (case llaw_keen => k_is)
    (case claw_keen => k_is)
    (case klaw_keen => k_is)
    (case alaw_some_dealings => k_is)
    (case llaw_some_dealings => k_is)
    (case claw_some_dealings => k_is)
    (case klaw_some_dealings => k_is)
    (case alaw_few_state => k_is)
    (case llaw_few_state => k_is)
    (case claw_few_state => k_is)
    (case klaw_few_state => k_is)
    (case alaw_next_3 => k_is)
    (case llaw_next_3 => k_is)
    (case claw_next_3 => k_is)
    (case klaw_next_3 => k_is)
    (case alaw_rows => k_is)
    (case llaw_rows => k_is)
    (case claw_rows => k_is)
    (case klaw_rows => k_is)
    (case alaw_fewest => k_is)
    (case llaw_fewest => k_is)
    (case claw_fewest => k_is)
    (case klaw_fewest => k_is)
    (case alaw_is_stuck => k_is)
    (case llaw_is_stuck => k_is)
    (case claw_is_stuck => k_is)
    (case klaw_is_stuck => k_is)
    (case alaw_51 => k_is)
    (case llaw_51 => k_is)
    (case claw_51 => k_is)
    (case klaw_51 => k_is)
    (case gHANDS => k_is)
    (case b_len => k_is)
    (case b_int => k_is)
    (case b_str => k_is)
    (case b_list => k_is)
    (case b_tuple => k_is)
    (case b_sorted => k_is)
    (case b_all => k_is)
    (case b_any => k_is)
    (case b_min => k_is)
    (case b_max => k_is)
    (case b_range => k_is)
    (case b_enumerate => k_is)
    (case b_zip => k_is)
    (case b_isinstance => k_is)
    (case b_bool => k_is)
    (case b_dict => k_is)
    (case b_sum => k_is)
    (case b_set => k_is)
