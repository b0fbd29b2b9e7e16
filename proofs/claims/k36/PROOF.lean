import PyProof.Rows.All
import Wide.All
import OpenK.AllK
import Wide.FinOn
import HandS.ForMost
import HandS.Wide
import HandS.Text
import HandS.Deep
import KE.KDictKeyed
import KE.KeyNested
import HandS.TupAny
import HandS.TupMul
import HandS.IsInst
import HandS.Style
import HandS.SortInts
import HandS.Zip
import HandS.Conv
import HandS.TupLen
import HandS.More
import HandS.DictTup
import HandS.SetFor
import KE.KDictSum
import KE.GoesEnum
import HandS.TryOnly
import HandS.Iter
import KE.KDictIter
import HandS.EndBits
import PySem.Challenge.RW_oneglance_k36_apart_none_falls
set_option Elab.async false
set_option linter.all false
set_option maxRecDepth 100000
set_option maxHeartbeats 4000000
/-! DL1: data, heaps, the small language R, its meaning. -/
namespace DL
open PySem L2

/-- data: tuples by value, all that changes by its address -/
inductive D where
  | non | bl (b : Bool) | int (i : Int) | str (s : List Nat) | ref (a : Addr) | tup (ds : List D)
  deriving Inhabited
/-- what an expression gives: data; a list that nobody else holds (vl), one that is lent (bw); dicts, sets alike -/
inductive Vx where
  | d (x : D) | vl (ds : List D) | bw (ds : List D) | fz (ds : List D) | vd (kvs : List (D × D)) | bd (kvs : List (D × D)) | st (ds : List D)
/-- what stands at an address -/
inductive O where
  | lst (ds : List D) | dic (kvs : List (D × D)) | ins (c : Nat) (fs : List D)
  /-- a dict that is walked: locked -/
  | fdc (kvs : List (D × D)) (h : HO)
  /-- a dict whose keys are tuples; one that is walked -/
  | dn (kvs : List (D × D)) | fdn (kvs : List (D × D)) (h : HO) (xs : List (NestedKey × Addr × Value))
abbrev Hs := Addr → Option O
def su (s : Hs) (a : Addr) (o : O) : Hs := fun b => if b = a then some o else s b
/-- all but a -/
def mn (a : Addr) (s : Hs) : Hs := fun b => if b = a then none else s b
theorem mn_same {s : Hs} {a : Addr} : mn a s a = none := by unfold mn; rw [if_pos rfl]
theorem mn_ne {s : Hs} {a b : Addr} (h : b ≠ a) : mn a s b = s b := by unfold mn; rw [if_neg h]
theorem su_same {s : Hs} {a : Addr} {o : O} : su s a o a = some o := by unfold su; rw [if_pos rfl]
theorem su_ne {s : Hs} {a b : Addr} {o : O} (h : b ≠ a) : su s a o b = s b := by unfold su; rw [if_neg h]
abbrev Sl := List (Option Vx)

/-- a container -/
inductive Cn where
  | l (ds : List D) | f (ds : List D) | k (kvs : List (D × D)) | t (ds : List D) | s (cs : List Nat) | i (c : Nat) (fs : List D) | e (ds : List D) | kf (kvs : List (D × D)) | kn (kvs : List (D × D)) | kfn (kvs : List (D × D))
def O.cn : O → Cn
  | .lst ds => .l ds
  | .dic kvs => .k kvs
  | .ins c fs => .i c fs
  | .fdc kvs _ => .kf kvs
  | .dn kvs => .kn kvs
  | .fdn kvs _ _ => .kfn kvs
def view : Vx → Hs → (Cn → Prop) → Prop
  | .d (.tup ds), _, K => K (.t ds)
  | .d (.str s), _, K => K (.s s)
  | .d (.ref a), S, K => ∃ o, S a = some o ∧ K o.cn
  | .vl ds, _, K => K (.l ds)
  | .bw ds, _, K => K (.l ds)
  | .fz ds, _, K => K (.f ds)
  | .vd kvs, _, K => K (.k kvs)
  | .bd kvs, _, K => K (.k kvs)
  | .st ds, _, K => K (.e ds)
  | _, _, _ => False
/-- lent -/
def bor : Vx → Vx
  | .vl ds => .bw ds
  | .vd kvs => .bd kvs
  | x => x
/-- given away: what nobody holds comes to stand in the heap -/
def bx : Vx → Hs → (D → Hs → Prop) → Prop
  | .d x, S, K => K x S
  | .vl ds, S, K => ∀ a, S a = none → K (.ref a) (su S a (.lst ds))
  | .vd kvs, S, K => ∀ a, S a = none → K (.ref a) (su S a (.dic kvs))
  | _, _, _ => False

/-! ### equality of data, as Python has it -/
mutual
def eqB : D → D → Bool
  | .non, .non => true
  | .bl a, .bl b => a == b
  | .bl a, .int j => decide ((if a then 1 else 0 : Int) = j)
  | .int i, .bl b => decide (i = (if b then 1 else 0 : Int))
  | .int i, .int j => decide (i = j)
  | .str a, .str b => decide (a = b)
  | .tup a, .tup b => eqBs a b
  | _, _ => false
def eqBs : List D → List D → Bool
  | [], [] => true
  | a :: as, b :: bs => eqB a b && eqBs as bs
  | _, _ => false
end
/-! no address within, at most so deep, texts of real signs -/
mutual
def pl : Nat → D → Bool
  | _, .ref _ => false
  | 0, .tup _ => false
  | n + 1, .tup ds => pls n ds
  | _, .str s => s.all fun c => decide (c < 1114112)
  | _, _ => true
def pls : Nat → List D → Bool
  | _, [] => true
  | n, d :: ds => pl n d && pls n ds
end
abbrev pln (d : D) : Bool := pl 60 d
abbrev plns (ds : List D) : Bool := pls 60 ds
/-- no tuple, no address -/
def flatD : D → Bool
  | .tup _ => false
  | .ref _ => false
  | _ => true
def getI {α : Type} (ds : List α) (i : Int) : Option α := match i with
  | .ofNat n => ds[n]?
  | .negSucc n => if n < ds.length then ds[ds.length - (n + 1)]? else none
def dget : List (D × D) → D → Option D
  | [], _ => none
  | (k, v) :: r, x => match eqB k x with
    | true => some v
    | false => dget r x
def dhas (kvs : List (D × D)) (x : D) : Bool := (dget kvs x).isSome
def dput (kvs : List (D × D)) (x y : D) : List (D × D) := match dhas kvs x with
  | true => kvs.map fun p => match eqB p.1 x with
    | true => (p.1, y)
    | false => p
  | false => kvs ++ [(x, y)]
/-- a key of a dict: a whole number or a text -/
def keyD : D → Bool
  | .int _ => true
  | .str _ => true
  | _ => false
/-- a key of a dict of tuples: a tuple without addresses, at most eight deep -/
def keyN : D → Bool
  | .tup ds => pl 8 (.tup ds)
  | _ => false
def seqOf : Cn → Option (List D)
  | .l ds => some ds
  | .f ds => some ds
  | .t ds => some ds
  | _ => none

/-! ### operators -/
inductive O2 where
  | add | sub | mul | fdiv | mod | pow | idx | eq | ne | lt | le | gt | ge | is | isnt | mem | nmem | min | max | eqh | neh | memh | nmemh
  deriving DecidableEq
inductive Ty where
  | int | bool | str | tuple | list | dict
  deriving DecidableEq
inductive O1 where
  | neg | len | int | str | list | tuple | sorted | all | any | dict | dictP | sortedP | sum | maxl | minl | sortedN | sortedDn | listDn | listK | lenDn | isi (t : Ty)
  deriving DecidableEq
def mulOk (i j : Int) : Prop := ((-(2 ^ 64) < i ∧ i < 2 ^ 64) ∨ (-(2 ^ 64) < j ∧ j < 2 ^ 64)) ∨ i.natAbs.log2 + j.natAbs.log2 < 1000000
def fdivOk (_ j : Int) : Prop := 0 < j ∧ j.natAbs.log2 < 9000
def powOk (i j : Int) : Prop := 0 ≤ j ∧ j ≤ 1000000 ∧ i.natAbs < 2 ^ 64
abbrev VK2 := Vx → Hs → Prop
def addC : Cn → Cn → Hs → VK2 → Prop
  | .l a, .l b, S, Q => a.length + b.length ≤ sizeLine ∧ Q (.vl (a ++ b)) S
  | _, _, _, _ => False
def addD : Vx → Vx → Hs → VK2 → Prop
  | .d (.int i), .d (.int j), S, Q => Q (.d (.int (i + j))) S
  | .d (.str a), .d (.str b), S, Q => a.length + b.length ≤ sizeLine ∧ Q (.d (.str (a ++ b))) S
  | .d (.tup a), .d (.tup b), S, Q => a.length + b.length ≤ sizeLine ∧ Q (.d (.tup (a ++ b))) S
  | x, y, S, Q => view x S fun c => view y S fun c' => addC c c' S Q
def repD {α : Type} (xs : List α) (n : Nat) : List α := (List.replicate n xs).flatten
def mulC : Cn → Int → Hs → VK2 → Prop
  | .l a, k, S, Q => k < 2 ^ 62 ∧ a.length * k.toNat ≤ sizeLine ∧ Q (.vl (repD a k.toNat)) S
  | _, _, _, _ => False
def mulD : Vx → Vx → Hs → VK2 → Prop
  | .d (.int i), .d (.int j), S, Q => mulOk i j ∧ Q (.d (.int (i * j))) S
  | .d (.tup a), .d (.int k), S, Q => (-(2 ^ 62) < k ∧ k ≤ 1000 ∧ a.length ≤ 1000) ∧ Q (.d (.tup (repD a k.toNat))) S
  | x, .d (.int k), S, Q => -(2 ^ 62) < k ∧ view x S fun c => mulC c k S Q
  | _, _, _, _ => False
def intD (f : Int → Int → VK2 → Hs → Prop) : Vx → Vx → Hs → VK2 → Prop
  | .d (.int i), .d (.int j), S, Q => f i j Q S
  | _, _, _, _ => False
def idxC : Cn → D → Hs → VK2 → Prop
  | .l ds, .int i, S, Q => ∃ y, getI ds i = some y ∧ Q (.d y) S
  | .f ds, .int i, S, Q => ∃ y, getI ds i = some y ∧ Q (.d y) S
  | .t ds, .int i, S, Q => ∃ y, getI ds i = some y ∧ Q (.d y) S
  | .s cs, .int i, S, Q => cs.length ≤ sizeLine ∧ ∃ c, getI cs i = some c ∧ Q (.d (.str [c])) S
  | .k kvs, x, S, Q => keyD x = true ∧ ∃ y, dget kvs x = some y ∧ Q (.d y) S
  | .kf kvs, x, S, Q => keyD x = true ∧ ∃ y, dget kvs x = some y ∧ Q (.d y) S
  | .kn kvs, x, S, Q => keyN x = true ∧ ∃ y, dget kvs x = some y ∧ Q (.d y) S
  | .kfn kvs, x, S, Q => keyN x = true ∧ ∃ y, dget kvs x = some y ∧ Q (.d y) S
  | _, _, _, _ => False
def idxD : Vx → Vx → Hs → VK2 → Prop
  | x, .d k, S, Q => view x S fun c => idxC c k S Q
  | _, _, _, _ => False
/-- equality of containers: sequences of one kind without addresses -/
def eqC : Cn → Cn → (Bool → Prop) → Prop
  | .l a, .l b, K => (b = [] ∨ (plns a = true ∧ plns b = true)) ∧ K (eqBs a b)
  | .k a, .k b, K => b = [] ∧ K a.isEmpty
  | _, _, _ => False
def eqD : Vx → Vx → Hs → (Bool → Prop) → Prop
  | .d (.ref a), y, S, K => view (.d (.ref a)) S fun c => view y S fun c' => eqC c c' K
  | .d x, .d (.ref b), S, K => False
  | .d x, .d y, _, K => pln x = true ∧ pln y = true ∧ K (eqB x y)
  | x, y, S, K => view x S fun c => view y S fun c' => eqC c c' K
def isD : Vx → Vx → Option Bool
  | .d .non, .d .non => some true
  | _, .d .non => some false
  | .d (.bl a), .d (.bl b) => some (decide (a = b))
  | _, _ => none
def memC : Cn → D → (Bool → Prop) → Prop
  | .l ds, x, K => pln x = true ∧ plns ds = true ∧ K (ds.any fun y => eqB y x)
  | .t ds, x, K => flatD x = true ∧ ds.all flatD = true ∧ K (ds.any fun y => eqB y x)
  | .k kvs, x, K => keyD x = true ∧ K (dhas kvs x)
  | .kf kvs, x, K => keyD x = true ∧ K (dhas kvs x)
  | .kn kvs, x, K => keyN x = true ∧ K (dhas kvs x)
  | .kfn kvs, x, K => keyN x = true ∧ K (dhas kvs x)
  | .s cs, .str [c], K => K (decide (c ∈ cs))
  | _, _, _ => False
def memD : Vx → Vx → Hs → (Bool → Prop) → Prop
  | .d x, y, S, K => view y S fun c => memC c x K
  | _, _, _, _ => False
/-- in a tuple, whatever stands there -/
def memHC : Cn → D → (Bool → Prop) → Prop
  | .t ds, x, K => pln x = true ∧ (pls 59 ds = true ∧ plns ds = true) ∧ K (ds.any fun y => eqB y x)
  | _, _, _ => False
def memH : Vx → Vx → Hs → (Bool → Prop) → Prop
  | .d x, y, S, K => view y S fun c => memHC c x K
  | _, _, _, _ => False
def ltD (p : Int → Int → Bool) : Vx → Vx → Hs → VK2 → Prop := intD fun i j Q S => Q (.d (.bl (p i j))) S
/-! data with what stands in the heap, read whole -/
mutual
def resP (S : Hs) : Nat → D → Option PyData
  | _, .non => some .none
  | _, .bl b => some (.bool b)
  | _, .int i => some (.int i)
  | _, .str s => some (.str ⟨s.toArray⟩)
  | n + 1, .tup ds => (resPs S n ds).map PyData.tuple
  | n + 1, .ref a => match S a with
    | some (.lst ds) => (resPs S n ds).map PyData.list
    | _ => none
  | 0, _ => none
  termination_by n d => (n, sizeOf d)
def resPs (S : Hs) : Nat → List D → Option (List PyData)
  | _, [] => some []
  | n, d :: ds => match resP S n d, resPs S n ds with
    | some p, some ps => some (p :: ps)
    | _, _ => none
  termination_by n ds => (n, sizeOf ds)
end
def resX (S : Hs) : Vx → Option PyData
  | .d x => resP S 50 x
  | .vl ds => (resPs S 49 ds).map PyData.list
  | .bw ds => (resPs S 49 ds).map PyData.list
  | _ => none
def eqH (x y : Vx) (S : Hs) (K : Bool → Prop) : Prop := ∃ p q, resX S x = some p ∧ resX S y = some q ∧ SeqAt.shaped p = true ∧ SeqAt.shaped q = true ∧ K (PyData.eqv p q)
def op2D : O2 → Vx → Vx → Hs → VK2 → Prop
  | .add, x, y, S, Q => addD x y S Q
  | .sub, x, y, S, Q => intD (fun i j Q S => Q (.d (.int (i - j))) S) x y S Q
  | .mul, x, y, S, Q => mulD x y S Q
  | .fdiv, x, y, S, Q => intD (fun i j Q S => fdivOk i j ∧ Q (.d (.int (i / j))) S) x y S Q
  | .mod, x, y, S, Q => intD (fun i j Q S => 0 < j ∧ Q (.d (.int (i % j))) S) x y S Q
  | .pow, x, y, S, Q => intD (fun i j Q S => powOk i j ∧ Q (.d (.int (i ^ j.toNat))) S) x y S Q
  | .idx, x, y, S, Q => idxD x y S Q
  | .eq, x, y, S, Q => eqD x y S fun b => Q (.d (.bl b)) S
  | .ne, x, y, S, Q => eqD x y S fun b => Q (.d (.bl (!b))) S
  | .eqh, x, y, S, Q => eqH x y S fun b => Q (.d (.bl b)) S
  | .neh, x, y, S, Q => eqH x y S fun b => Q (.d (.bl (!b))) S
  | .lt, x, y, S, Q => ltD (fun i j => decide (i < j)) x y S Q
  | .le, x, y, S, Q => ltD (fun i j => decide (i ≤ j)) x y S Q
  | .gt, x, y, S, Q => ltD (fun i j => decide (j < i)) x y S Q
  | .ge, x, y, S, Q => ltD (fun i j => decide (j ≤ i)) x y S Q
  | .is, x, y, S, Q => ∃ b, isD x y = some b ∧ Q (.d (.bl b)) S
  | .isnt, x, y, S, Q => ∃ b, isD x y = some b ∧ Q (.d (.bl (!b))) S
  | .mem, x, y, S, Q => memD x y S fun b => Q (.d (.bl b)) S
  | .nmem, x, y, S, Q => memD x y S fun b => Q (.d (.bl (!b))) S
  | .memh, x, y, S, Q => memH x y S fun b => Q (.d (.bl b)) S
  | .nmemh, x, y, S, Q => memH x y S fun b => Q (.d (.bl (!b))) S
  | .min, x, y, S, Q => intD (fun i j Q S => Q (.d (.int (if j < i then j else i))) S) x y S Q
  | .max, x, y, S, Q => intD (fun i j Q S => Q (.d (.int (if j > i then j else i))) S) x y S Q
def lenC : Cn → Option Nat
  | .l ds => some ds.length
  | .f ds => some ds.length
  | .t ds => some ds.length
  | .k kvs => some kvs.length
  | .s cs => if cs.length ≤ sizeLine then some cs.length else none
  | .e ds => some ds.length
  | .i _ _ => none
  | .kf _ => none
  | .kn _ => none
  | .kfn _ => none
def Ty.isD : Ty → D → Hs → Option Bool
  | t, .non, _ => some false
  | t, .bl _, _ => some (decide (t = .bool) || decide (t = .int))
  | t, .int _, _ => some (decide (t = .int))
  | t, .str _, _ => some (decide (t = .str))
  | t, .tup _, _ => some (decide (t = .tuple))
  | t, .ref a, S => match S a with
    | some (.lst _) => some (decide (t = .list))
    | some (.dic _) => some (decide (t = .dict))
    | _ => none
def negD : Vx → Hs → VK2 → Prop
  | .d (.int i), S, Q => Q (.d (.int (-i))) S
  | _, _, _ => False
def toIntD : Vx → Hs → VK2 → Prop
  | .d (.int i), S, Q => Q (.d (.int i)) S
  | .d (.bl b), S, Q => Q (.d (.int (if b then 1 else 0))) S
  | _, _, _ => False
def strD : Vx → Hs → VK2 → Prop
  | .d (.int i), S, Q => i.natAbs.log2 < 1920 ∧ Q (.d (.str ((toString i : String).toList.map Char.toNat))) S
  | _, _, _ => False
def isiD (t : Ty) : Vx → Hs → VK2 → Prop
  | .d x, S, Q => ∃ b, t.isD x S = some b ∧ Q (.d (.bl b)) S
  | .bw _, S, Q => Q (.d (.bl (decide (t = .list)))) S
  | _, _, _ => False
/-- what is sorted: a list of ints, a dict with int keys -/
def srtOf (c : Cn) (ns : List Int) : Prop := c = .l (ns.map D.int) ∨ ∃ kvs, c = .k kvs ∧ kvs.map Prod.fst = ns.map D.int ∧ ns.length < 64
abbrev pairD (p : Int × Int) : D := .tup [.int p.1, .int p.2]
def ltP2 (p q : Int × Int) : Prop := p.1 < q.1 ∨ (p.1 = q.1 ∧ p.2 < q.2)
/-- pairs sorted -/
def srtP (qs : List (Int × Int)) : Prop := qs.Pairwise fun p q => ¬ ltP2 q p
def mrgD (kvs more : List (D × D)) : List (D × D) := more.foldl (fun acc kv => dput acc kv.1 kv.2) kvs
abbrev tupI (p : List Int) : D := .tup (p.map D.int)
/-- tuples of ints in their order -/
def lexN : List Int → List Int → Bool
  | [], [] => false
  | [], _ :: _ => true
  | _ :: _, [] => false
  | x :: p, y :: q => if x = y then lexN p q else decide (x < y)
def srtN (ps : List (List Int)) : Prop := ps.Pairwise fun p q => lexN q p = false
def op1D : O1 → Vx → Hs → VK2 → Prop
  | .neg, x, S, Q => negD x S Q
  | .len, x, S, Q => view x S fun c => ∃ n, lenC c = some n ∧ Q (.d (.int (n : Int))) S
  | .int, x, S, Q => toIntD x S Q
  | .str, x, S, Q => strD x S Q
  | .list, x, S, Q => view x S fun c => ∃ ds, seqOf c = some ds ∧ Q (.vl ds) S
  | .tuple, x, S, Q => view x S fun c => ∃ ds, seqOf c = some ds ∧ Q (.d (.tup ds)) S
  | .sorted, x, S, Q => view x S fun c => ∃ ns : List Int, srtOf c ns ∧ ∀ ns' : List Int, ns'.Perm ns → ns'.Pairwise (· ≤ ·) → Q (.vl (ns'.map D.int)) S
  | .sortedP, x, S, Q => view x S fun c => ∃ ps : List (Int × Int), c = .l (ps.map pairD) ∧ ∀ qs : List (Int × Int), qs.Perm ps → srtP qs → Q (.vl (qs.map pairD)) S
  | .sortedN, x, S, Q => view x S fun c => ∃ ps : List (List Int), c = .l (ps.map tupI) ∧ (∀ p ∈ ps, p ≠ []) ∧ ∀ qs : List (List Int), qs.Perm ps → srtN qs → Q (.vl (qs.map tupI)) S
  | .sortedDn, x, S, Q => view x S fun c => ∃ (kvs : List (D × D)) (ps : List (List Int)), c = .kn kvs ∧ kvs.map Prod.fst = ps.map tupI ∧ (∀ p ∈ ps, p ≠ []) ∧ ∀ qs : List (List Int), qs.Perm ps → srtN qs → Q (.vl (qs.map tupI)) S
  | .listK, x, S, Q => view x S fun c => ∃ kvs, c = .k kvs ∧ Q (.vl (kvs.map Prod.fst)) S
  | .listDn, x, S, Q => view x S fun c => ∃ kvs, c = .kn kvs ∧ Q (.vl (kvs.map Prod.fst)) S
  | .lenDn, x, S, Q => view x S fun c => ∃ kvs, c = .kn kvs ∧ Q (.d (.int (kvs.length : Nat))) S
  | .sum, x, S, Q => view x S fun c => ∃ ns : List Int, c = .l (ns.map D.int) ∧ Q (.d (.int ns.sum)) S
  | .maxl, x, S, Q => view x S fun c => ∃ ns : List Int, c = .l (ns.map D.int) ∧ 0 < ns.length ∧ ∀ m, m ∈ ns → (∀ y, y ∈ ns → y ≤ m) → Q (.d (.int m)) S
  | .minl, x, S, Q => view x S fun c => ∃ ns : List Int, c = .l (ns.map D.int) ∧ 0 < ns.length ∧ ∀ m, m ∈ ns → (∀ y, y ∈ ns → m ≤ y) → Q (.d (.int m)) S
  | .dict, x, S, Q => view x S fun c => ∃ kvs, c = .k kvs ∧ Q (.vd kvs) S
  | .dictP, x, S, Q => view x S fun c => ∃ ps : List (Int × Int), c = .l (ps.map pairD) ∧ Q (.vd (mrgD [] (ps.map fun p => (D.int p.1, D.int p.2)))) S
  | .all, x, S, Q => view x S fun c => ∃ (ds : List D) (bs : List Bool), c = .l ds ∧ ds = bs.map D.bl ∧ Q (.d (.bl (bs.all id))) S
  | .any, x, S, Q => view x S fun c => ∃ (ds : List D) (bs : List Bool), c = .l ds ∧ ds = bs.map D.bl ∧ Q (.d (.bl (bs.any id))) S
  | .isi t, x, S, Q => isiD t x S Q

/-! ### mutators: the container behind, the value told -/
inductive M where
  | append | pop | popAt | insert | extend | clear | setI
  deriving DecidableEq
def insD {α : Type} (xs : List α) (n : Nat) (x : α) : List α := xs.take n ++ x :: xs.drop n
/-- a key dropped -/
def ddrop (kvs : List (D × D)) (k : D) : List (D × D) := kvs.filter fun p => !eqB p.1 k
def mutC : M → Cn → List Vx → Hs → (Cn → D → Prop) → Prop
  | .append, .l ds, [.d x], _, K => ds.length < sizeLine ∧ K (.l (ds ++ [x])) .non
  | .pop, .l ds, [], _, K => ∃ y, ds[ds.length - 1]? = some y ∧ K (.l ds.dropLast) y
  | .popAt, .l ds, [.d (.int (.ofNat n))], _, K => ∃ y, ds[n]? = some y ∧ K (.l (ds.eraseIdx n)) y
  | .setI, .l ds, [.d (.int (.ofNat n)), .d x], _, K => n < ds.length ∧ K (.l (ds.set n x)) .non
  | .setI, .k kvs, [.d k, .d x], _, K => keyD k = true ∧ kvs.length < sizeLine ∧ K (.k (dput kvs k x)) .non
  | .setI, .kn kvs, [.d k, .d x], _, K => keyN k = true ∧ kvs.length < sizeLine ∧ K (.kn (dput kvs k x)) .non
  | .insert, .l ds, [.d (.int (.ofNat n)), .d x], _, K => ds.length < sizeLine ∧ n < 1000000 ∧ K (.l (ds.take n ++ [x] ++ ds.drop n)) .non
  | .extend, .l ds, [x], S, K => view x S fun c => ∃ es, c = .l es ∧ ds.length + es.length ≤ sizeLine ∧ K (.l (ds ++ es)) .non
  | .clear, .l ds, [], _, K => K (.l []) .non
  | _, _, _, _, _ => False
def Cn.o : Cn → Option O
  | .l ds => some (.lst ds)
  | .k kvs => some (.dic kvs)
  | .kn kvs => some (.dn kvs)
  | _ => none
def Cn.v : Cn → Vx
  | .l ds => .vl ds
  | .k kvs => .vd kvs
  | _ => .d .non

/-- methods that read -/
inductive BM where
  | index | count | join | split
  deriving DecidableEq
/-! ### the language -/
inductive Tg where
  | nm (i : Nat) | tp (is : List Nat)
  deriving DecidableEq
inductive R where
  -- expressions
  | v (i : Nat) | i (n : Int) | s (x : List Nat) | b (x : Bool) | n | g (k : Nat)
  | o1 (o : O1) (a : R) | o2 (o : O2) (a b : R)
  | nil | cons (a r : R) | consb (a r : R) | pr (k v r : R)
  | tup (as : R) | lst (as : R) | dct | dctp (ps : R) | get1 (o k : R) | dpop (o k : R) | get2 (o k d : R)
  | and (a r : R) | or (a r : R) | one (a : R) | not (a : R) | ife (c a b : R)
  | chain (o o' : O2) (a b c : R)
  | slc (a lo hi : R)
  | call (f : Nat) (as : R) | meth (f : Nat) (o as : R) | make (c : Nat) (as : R)
  | fld (o : R) (ci k : Nat)
  | hm (m : M) (o as : R)
  | comp (tg : Tg) (elt it tst : R) | lockE (e : R)
  | sIt (e : R) | rev (e : R) | lrg (a : R) | bm1 (m : BM) (o a : R) | upper (o : R) | setlen (a : R)
  | lend (i : Nat) (e : R) | dctn | lockEN (e : R) | stp (a k : R)
  -- what is walked
  | itv (i : Nat) | ite (e : R) | rng (a : R) | rng2 (a b : R) | enu (a : R) | zip (a b : R) | itk (e : R) | itms (e : R) | itkn (e : R) | enuk (e : R)
  -- statements
  | seq (a r : R) | skip | expr (e : R) | set (i : Nat) (e : R) | setT (is : List Nat) (e : R)
  | seti (o k e : R) | fset (o : R) (ci k : Nat) (e : R)
  | iff (c a r : R) | whl (c a : R) | for (tg : Tg) (it a : R)
  | ret (e : R) | retn | retv (i : Nat) | brk | cnt | never | box (i : Nat)
  | om (m : M) (i : Nat) (as : R) (dst : Option Nat) | oseti (i : Nat) (k e : R) | faug (o : R) (ci k : Nat) (e : R) | lock (st : R) | tryp (st : R)
  deriving Inhabited

structure Fn where
  np : Nat
  nl : Nat
  body : R
structure Tbl where
  fn : Nat → Option Fn
  glob : Nat → Vx
  cini : Nat → Nat
  fcls : Nat → Nat

abbrev LK2 := List Vx → Hs → Prop
def one1 (Q : VK2) : LK2 := fun xs S => match xs with
  | [x] => Q x S
  | _ => False
/-- a truth -/
def tstK (K : Bool → Hs → Prop) : VK2 := fun x S => match x with
  | .d (.bl b) => K b S
  | _ => False
structure Br (b : Bool) (A B : Prop) : Prop where
  t : b = true → A
  f : b = false → B
structure It2 where
  items : List D
  ok : Sl → Hs → Prop
  tu : Bool
/-- targets -/
def bindN : List Nat → List D → Sl → Option Sl
  | [], [], σ => some σ
  | i :: is, x :: xs, σ => bindN is xs (σ.set i (some (.d x)))
  | _, _, _ => none
def bindT : Tg → D → Sl → (Sl → Prop) → Prop
  | .nm i, x, σ, K => K (σ.set i (some (.d x)))
  | .tp is, .tup xs, σ, K => ∃ σ', bindN is xs σ = some σ' ∧ K σ'
  | _, _, _, _ => False
/-- a comprehension's turns -/
def compL (tg : Tg) (ok : Sl → Hs → Prop) (elt : Sl → Hs → (D → Hs → Prop) → Prop) (tst : Sl → Hs → (Bool → Hs → Prop) → Prop) (σ : Sl) : List D → List D → Hs → (List D → Hs → Prop) → Prop
  | [], acc, S, K => ok σ S ∧ K acc S
  | x :: xs, acc, S, K => ok σ S ∧ bindT tg x σ fun σ' => tst σ' S fun b S1 => Br b
      (elt σ' S1 fun y S2 => acc.length < sizeLine ∧ compL tg ok elt tst σ xs (acc ++ [y]) S2 K) (compL tg ok elt tst σ xs acc S1 K)
def zipD : List D → List D → List D
  | a :: as, b :: bs => .tup [a, b] :: zipD as bs
  | _, _ => []
def enumD : Nat → List D → List D
  | _, [] => []
  | n, a :: as => .tup [.int n, a] :: enumD (n + 1) as
def rngD (lo : Int) : Nat → List D
  | 0 => []
  | n + 1 => .int lo :: rngD (lo + 1) n
def cutI (xs : List α) (lo hi : Option Int) : List α := (xs.drop (HT.sIx xs.length 0 lo)).take (HT.sIx xs.length xs.length hi - HT.sIx xs.length 0 lo)
def slcC : Cn → Option Int → Option Int → Hs → VK2 → Prop
  | .l ds, lo, hi, S, Q => Q (.vl (cutI ds lo hi)) S
  | .f ds, lo, hi, S, Q => Q (.vl (cutI ds lo hi)) S
  | .t ds, lo, hi, S, Q => Q (.d (.tup (cutI ds lo hi))) S
  | .s cs, lo, hi, S, Q => cs.length ≤ sizeLine ∧ Q (.d (.str (cutI cs lo hi))) S
  | _, _, _, _, _ => False
def optI : R → Vx → Option (Option Int)
  | .n, _ => some none
  | _, .d (.int i) => some (some i)
  | _, _ => none
/-- the items of a list, a tuple that is walked; what a name lends is walked by the name alone -/
def srcX : Bool → Vx → Hs → (It2 → Hs → Prop) → Prop
  | _, .d (.tup ds), S, K => K ⟨ds, fun _ _ => True, true⟩ S
  | _, .d (.ref a), S, K => ∃ ds, S a = some (.lst ds) ∧ K ⟨ds, fun _ S' => S' a = some (.lst ds), false⟩ S
  | _, .vl ds, S, K => K ⟨ds, fun _ _ => True, false⟩ S
  | true, .bw ds, S, K => K ⟨ds, fun _ _ => True, false⟩ S
  | _, .fz ds, S, K => K ⟨ds, fun _ _ => True, false⟩ S
  | _, _, _, _ => False
/-- pairs of a display -/
def prsOf : List Vx → Option (List (D × D))
  | [] => some []
  | .d k :: .d v :: r => match keyD k, prsOf r with
    | true, some kvs => some ((k, v) :: kvs)
    | _, _ => none
  | _ => none
def dicOf : Cn → Option (List (D × D))
  | .k kvs => some kvs
  | .kf kvs => some kvs
  | _ => none
def isK (c : Cn) : Prop := ∃ kvs, dicOf c = some kvs
/-! texts -/
def joinD (s : List Nat) (zs : List (List Nat)) : List Nat := (Txt.join ⟨s.toArray⟩ (zs.map fun z => ⟨z.toArray⟩)).cps.toList
def splitD (s t : List Nat) : List (List Nat) := (Txt.split ⟨s.toArray⟩ ⟨t.toArray⟩).map fun z => z.cps.toList
def upD (s : List Nat) : List Nat := (Txt.upper ⟨s.toArray⟩).cps.toList
def isStrX : Vx → Prop
  | .d (.str _) => True
  | _ => False
def bmTy : BM → Vx → Hs → Prop
  | .index, x, S => view x S fun c => ∃ ds, c = .l ds
  | .count, x, S => view x S fun c => ∃ ds, c = .l ds
  | .join, x, _ => isStrX x
  | .split, x, _ => isStrX x
def bmD : BM → Vx → Vx → Hs → VK2 → Prop
  | .index, x, y, S, Q => view x S fun c => ∃ ds yd j z, c = .l ds ∧ y = .d yd ∧ flatD yd = true ∧ ds.all flatD = true ∧ ds[j]? = some z ∧ eqB z yd = true ∧ (∀ (m : Nat) z', m < j → ds[m]? = some z' → eqB z' yd = false) ∧ Q (.d (.int (j : Nat))) S
  | .count, x, y, S, Q => view x S fun c => ∃ (ns : List Int) (k : Int), c = .l (ns.map D.int) ∧ y = .d (.int k) ∧ Q (.d (.int (ns.count k : Nat))) S
  | .join, x, y, S, Q => view y S fun c => ∃ s zs, x = .d (.str s) ∧ c = .l (zs.map D.str) ∧ (zs.map List.length).sum + zs.length * s.length ≤ 16777216 ∧ Q (.d (.str (joinD s zs))) S
  | .split, x, y, S, Q => ∃ s t, x = .d (.str s) ∧ y = .d (.str t) ∧ t ≠ [] ∧ s.length + 2 ≤ sizeLine ∧ Q (.vl ((splitD s t).map D.str)) S
/-- data alone -/
def unD : List Vx → Option (List D)
  | [] => some []
  | .d x :: r => match unD r with
    | some ds => some (x :: ds)
    | none => none
  | _ :: _ => none
theorem unD_map : ∀ {xs : List Vx} {ds : List D}, unD xs = some ds → xs = ds.map Vx.d
  | [], _, e => by cases e; rfl
  | x :: r, ds, e => by
    cases x with
    | d y =>
      unfold unD at e
      split at e
      · rename_i es h; cases e; rw [unD_map h]; rfl
      · cases e
    | _ => cases e
/-- a value that is no loan -/
def noLoan : Vx → Bool
  | .d _ => true
  | .vl _ => true
  | .vd _ => true
  | _ => false
section
variable (T : Tbl) (cal : Nat → List Vx → Hs → VK2 → Prop)
mutual
/-- the meaning of an expression: of an argument list all its values; of what is walked: nothing -/
def wpE : R → Sl → Hs → LK2 → Prop
  | .v i, σ, S, Q => ∃ x, σ[i]? = some (some x) ∧ Q [bor x] S
  | .i n, _, S, Q => Q [.d (.int n)] S
  | .s x, _, S, Q => Q [.d (.str x)] S
  | .b x, _, S, Q => Q [.d (.bl x)] S
  | .n, _, S, Q => Q [.d .non] S
  | .g k, _, S, Q => Q [T.glob k] S
  | .o1 o a, σ, S, Q => wpE a σ S (one1 fun x S1 => op1D o x S1 fun z S2 => Q [z] S2)
  | .o2 o a b, σ, S, Q => wpE a σ S (one1 fun x S1 => wpE b σ S1 (one1 fun y S2 => op2D o x y S2 fun z S3 => Q [z] S3))
  | .nil, _, S, Q => Q [] S
  | .cons a r, σ, S, Q => wpE a σ S (one1 fun x S1 => wpE r σ S1 fun xs S2 => Q (bor x :: xs) S2)
  | .consb a r, σ, S, Q => wpE a σ S (one1 fun x S1 => bx x S1 fun d S2 => wpE r σ S2 fun xs S3 => Q (.d d :: xs) S3)
  | .tup as, σ, S, Q => wpE as σ S fun xs S1 => ∃ ds, unD xs = some ds ∧ ds.length ≤ sizeLine ∧ Q [.d (.tup ds)] S1
  | .lst as, σ, S, Q => wpE as σ S fun xs S1 => ∃ ds, unD xs = some ds ∧ ds.length ≤ sizeLine ∧ Q [.vl ds] S1
  | .dct, _, S, Q => Q [.vd []] S
  | .pr k v r, σ, S, Q => wpE k σ S (one1 fun x S1 => wpE v σ S1 (one1 fun y S2 => bx y S2 fun d S3 => wpE r σ S3 fun xs S4 => Q (x :: .d d :: xs) S4))
  | .dctp ps, σ, S, Q => wpE ps σ S fun xs S1 => ∃ kvs, prsOf xs = some kvs ∧ kvs.length ≤ 15 ∧ Q [.vd (mrgD [] kvs)] S1
  | .dpop o k, σ, S, Q => wpE o σ S (one1 fun x S1 => ∃ a kvs0, x = .d (.ref a) ∧ S1 a = some (.dic kvs0) ∧ wpE k σ S1 (one1 fun y S2 => ∃ kvs ky v, y = .d ky ∧ keyD ky = true ∧ S2 a = some (.dic kvs) ∧ dget kvs ky = some v ∧ Q [.d v] (su S2 a (.dic (ddrop kvs ky)))))
  | .get1 o k, σ, S, Q => wpE o σ S (one1 fun x S1 => view x S1 isK ∧ wpE k σ S1 (one1 fun y S2 => view x S2 fun c => ∃ kvs ky, dicOf c = some kvs ∧ y = .d ky ∧ keyD ky = true ∧ Q [.d ((dget kvs ky).getD .non)] S2))
  | .get2 o k d, σ, S, Q => wpE o σ S (one1 fun x S1 => view x S1 isK ∧ wpE k σ S1 (one1 fun y S2 => wpE d σ S2 (one1 fun z S3 => view x S3 fun c => ∃ kvs ky dz, dicOf c = some kvs ∧ y = .d ky ∧ z = .d dz ∧ keyD ky = true ∧ Q [.d ((dget kvs ky).getD dz)] S3)))
  | .and a r, σ, S, Q => wpE a σ S (one1 (tstK fun b S1 => Br b (wpE r σ S1 Q) (Q [.d (.bl false)] S1)))
  | .or a r, σ, S, Q => wpE a σ S (one1 (tstK fun b S1 => Br b (Q [.d (.bl true)] S1) (wpE r σ S1 Q)))
  | .one a, σ, S, Q => wpE a σ S (one1 (tstK fun b S1 => Q [.d (.bl b)] S1))
  | .not a, σ, S, Q => wpE a σ S (one1 (tstK fun b S1 => Q [.d (.bl (!b))] S1))
  | .ife c a b, σ, S, Q => wpE c σ S (one1 (tstK fun k S1 => Br k (wpE a σ S1 (one1 fun x S2 => Q [x] S2)) (wpE b σ S1 (one1 fun x S2 => Q [x] S2))))
  | .chain o o' a b c, σ, S, Q => wpE a σ S (one1 fun x S1 => wpE b σ S1 (one1 fun y S2 => op2D o x y S2 (tstK fun k S3 => Br k
      (wpE c σ S3 (one1 fun z S4 => op2D o' y z S4 (tstK fun k' S5 => Q [.d (.bl k')] S5))) (Q [.d (.bl false)] S3))))
  | .slc a lo hi, σ, S, Q => wpE a σ S (one1 fun x S1 => wpE lo σ S1 (one1 fun l S2 => ∃ l', optI lo l = some l' ∧ wpE hi σ S2 (one1 fun u S3 => ∃ u', optI hi u = some u' ∧ view x S3 fun c => slcC c l' u' S3 fun z S4 => Q [z] S4)))
  | .call f as, σ, S, Q => wpE as σ S fun xs S1 => cal f xs S1 fun r S2 => Q [r] S2
  | .meth f o as, σ, S, Q => wpE o σ S (one1 fun x S1 => ∃ a fs, x = .d (.ref a) ∧ S1 a = some (.ins (T.fcls f) fs) ∧ wpE as σ S1 fun xs S2 => cal f (x :: xs) S2 fun r S3 => Q [r] S3)
  | .make c as, σ, S, Q => wpE as σ S fun xs S1 => ∀ a, S1 a = none → cal (T.cini c) (.d (.ref a) :: xs) (su S1 a (.ins c [])) fun r S2 => r = .d .non ∧ Q [.d (.ref a)] S2
  | .fld o ci k, σ, S, Q => wpE o σ S (one1 fun x S1 => ∃ a fs, x = .d (.ref a) ∧ S1 a = some (.ins ci fs) ∧ ∃ y, fs[k]? = some y ∧ Q [.d y] S1)
  | .hm m o as, σ, S, Q => wpE o σ S (one1 fun x S1 => bx x S1 fun d S1 => ∃ a ds, d = .ref a ∧ S1 a = some (.lst ds) ∧ wpE as σ S1 fun xs S2 => ∃ ob, S2 a = some ob ∧ mutC m ob.cn xs S2 fun c r => ∃ o', c.o = some o' ∧ Q [.d r] (su S2 a o'))
  | .comp tg elt it tst, σ, S, Q => wpI it σ S fun J S1 => compL tg J.ok (fun σ' S' K => wpE elt σ' S' (one1 fun y S2 => bx y S2 K)) (fun σ' S' K => wpE tst σ' S' (one1 (tstK K))) σ J.items [] S1 fun ys S2 => Q [.vl ys] S2
  | .sIt e, σ, S, Q => wpE e σ S (one1 fun x S1 => view x S1 fun c => ∃ ps : List (Int × Int), c = .k (ps.map fun p => (.int p.1, .int p.2)) ∧ ps.length ≤ 1000 ∧ ∀ qs : List (Int × Int), qs.Perm ps → srtP qs → Q [.vl (qs.map pairD)] S1)
  | .rev e, σ, S, Q => wpE e σ S (one1 fun x S1 => view x S1 fun c => ∃ ds, c = .l ds ∧ Q [.vl ds.reverse] S1)
  | .lrg a, σ, S, Q => wpE a σ S (one1 fun x S1 => ∃ n, x = .d (.int n) ∧ n ≤ 1000000 ∧ -(2 ^ 62) < n ∧ Q [.vl (rngD 0 n.toNat)] S1)
  | .bm1 m o a, σ, S, Q => wpE o σ S (one1 fun x S1 => bmTy m x S1 ∧ wpE a σ S1 (one1 fun y S2 => bmD m x y S2 fun z S3 => Q [z] S3))
  | .upper o, σ, S, Q => wpE o σ S (one1 fun x S1 => ∃ s, x = .d (.str s) ∧ s.length ≤ 5000000 ∧ Q [.d (.str (upD s))] S1)
  | .setlen a, σ, S, Q => wpE a σ S (one1 fun x S1 => view x S1 fun c => ∃ ns : List Int, c = .l (ns.map D.int) ∧ ns.Nodup ∧ ns.length ≤ 4000 ∧ Q [.d (.int (ns.length : Nat))] S1)
  | .dctn, _, S, Q => ∀ a, S a = none → Q [.d (.ref a)] (su S a (.dn []))
  | .lend i e, σ, S, Q => ∃ a ds, σ[i]? = some (some (.d (.ref a))) ∧ S a = some (.lst ds) ∧ wpE e (σ.set i (some (.bw ds))) (mn a S) fun xs S' => xs.all noLoan = true ∧ Q xs (su S' a (.lst ds))
  | .lockEN e, σ, S, Q => ∃ a kvs, S a = some (.dn kvs) ∧ ∀ h ns, wpE e σ (su S a (.fdn kvs h ns)) fun xs S' => S' a = some (.fdn kvs h ns) ∧ Q xs (su S' a (.dn kvs))
  | .stp a k, σ, S, Q => wpE a σ S (one1 fun x S1 => wpE k σ S1 (one1 fun y S2 => ∃ z, y = .d (.int z) ∧ (z = 1 ∨ z = -1) ∧ view x S2 fun c => ∃ ds, c = .l ds ∧ Q [.vl (if z = 1 then ds else ds.reverse)] S2))
  | .lockE e, σ, S, Q => ∃ a kvs, S a = some (.dic kvs) ∧ ∀ h, wpE e σ (su S a (.fdc kvs h)) fun xs S' => S' a = some (.fdc kvs h) ∧ Q xs (su S' a (.dic kvs))
  | _, _, _, _ => False
/-- the meaning of what is walked -/
def wpI : R → Sl → Hs → (It2 → Hs → Prop) → Prop
  | .itv i, σ, S, K => ∃ x, σ[i]? = some (some x) ∧ srcX true x S K
  | .ite e, σ, S, K => wpE e σ S (one1 fun x S1 => srcX false x S1 K)
  | .rng a, σ, S, K => wpE a σ S (one1 fun x S1 => ∃ n, x = .d (.int n) ∧ n < 2 ^ 62 ∧ -(2 ^ 62) < n ∧ K ⟨rngD 0 n.toNat, fun _ _ => True, false⟩ S1)
  | .rng2 a b, σ, S, K => wpE a σ S (one1 fun x S1 => wpE b σ S1 (one1 fun y S2 => ∃ m n, x = .d (.int m) ∧ y = .d (.int n) ∧ (m < 2 ^ 62 ∧ -(2 ^ 62) < m ∧ n < 2 ^ 62 ∧ -(2 ^ 62) < n) ∧ K ⟨rngD m (n - m).toNat, fun _ _ => True, false⟩ S2))
  | .enu a, σ, S, K => wpI a σ S fun J S1 => K ⟨enumD 0 J.items, J.ok, false⟩ S1
  | .zip a b, σ, S, K => wpI a σ S fun J S1 => wpI b σ S1 fun J' S2 => J.tu = J'.tu ∧ J.ok σ S2 ∧ K ⟨zipD J.items J'.items, fun σ' S' => J.ok σ' S' ∧ J'.ok σ' S', false⟩ S2
  | .itk e, σ, S, K => wpE e σ S (one1 fun x S1 => ∃ a kvs h, x = .d (.ref a) ∧ S1 a = some (.fdc kvs h) ∧ K ⟨kvs.map Prod.fst, fun _ S' => S' a = some (.fdc kvs h), false⟩ S1)
  | .enuk e, σ, S, K => wpE e σ S (one1 fun x S1 => ∃ a kvs h, x = .d (.ref a) ∧ S1 a = some (.fdc kvs h) ∧ K ⟨enumD 0 (kvs.map Prod.fst), fun _ S' => S' a = some (.fdc kvs h), false⟩ S1)
  | .itkn e, σ, S, K => wpE e σ S (one1 fun x S1 => ∃ a kvs h ns, x = .d (.ref a) ∧ S1 a = some (.fdn kvs h ns) ∧ K ⟨kvs.map Prod.fst, fun _ S' => S' a = some (.fdn kvs h ns), false⟩ S1)
  | .itms e, σ, S, K => wpE e σ S (one1 fun x S1 => ∃ a kvs h, x = .d (.ref a) ∧ S1 a = some (.fdc kvs h) ∧ K ⟨kvs.map fun kv => .tup [kv.1, kv.2], fun _ S' => S' a = some (.fdc kvs h), false⟩ S1)
  | _, _, _, _ => False
end
end
/-! ### statements -/
abbrev SK2 := Sl → Hs → Prop
/-- what may be kept: nothing lent -/
def stor (x : Vx) (P : Prop) : Prop := match x with
  | .bw _ => False
  | .bd _ => False
  | .fz _ => False
  | _ => P
def setF (fs : List D) (k : Nat) (x : D) : List D := if k = fs.length then fs ++ [x] else fs.set k x
/-- a container in a slot, held by nobody else -/
def ownC : Vx → (Cn → Prop) → Prop
  | .vl ds, K => K (.l ds)
  | .vd kvs, K => K (.k kvs)
  | _, _ => False
def dstS : Option Nat → D → Sl → Sl
  | none, _, σ => σ
  | some j, x, σ => σ.set j (some (.d x))
def forL (tg : Tg) (ok : SK2) (body : SK2 → SK2) (nx : SK2) : List D → SK2
  | [], σ, S => ok σ S ∧ nx σ S
  | x :: xs, σ, S => ok σ S ∧ bindT tg x σ fun σ' => body (forL tg ok body nx xs) σ' S
def whlN (tst : Sl → Hs → (Bool → Hs → Prop) → Prop) (body : SK2 → SK2) (nx : SK2) : Nat → SK2
  | 0, _, _ => False
  | n + 1, σ, S => tst σ S fun b S1 => Br b (body (whlN tst body nx n) σ S1) (nx σ S1)
/-- a slot's own list that a for walks is lent from then on -/
def lendX : Vx → Vx
  | .vl ds => .bw ds
  | x => x
def dem : R → Sl → Sl
  | .itv i, σ => match σ[i]? with
    | some (some x) => σ.set i (some (lendX x))
    | _ => σ
  | .enu a, σ => dem a σ
  | .zip a b, σ => dem b (dem a σ)
  | _, σ => σ
section
variable (T : Tbl) (cal : Nat → List Vx → Hs → VK2 → Prop)
/-- the meaning of a statement: nx behind it, rt what is handed back, bk and ct out of a loop's turn -/
def wpS : R → Sl → Hs → (nx : SK2) → (rt : VK2) → (bk ct : SK2) → Prop
  | .seq a r, σ, S, nx, rt, bk, ct => wpS a σ S (fun σ' S' => wpS r σ' S' nx rt bk ct) rt bk ct
  | .skip, σ, S, nx, rt, bk, ct => nx σ S
  | .expr e, σ, S, nx, rt, bk, ct => wpE T cal e σ S (one1 fun _ S1 => nx σ S1)
  | .set i e, σ, S, nx, rt, bk, ct => wpE T cal e σ S (one1 fun x S1 => stor x (nx (σ.set i (some x)) S1))
  | .setT is e, σ, S, nx, rt, bk, ct => wpE T cal e σ S (one1 fun x S1 => view x S1 fun c => ∃ ds, seqOf c = some ds ∧ ∃ σ', bindN is ds σ = some σ' ∧ nx σ' S1)
  | .seti o k e, σ, S, nx, rt, bk, ct => wpE T cal e σ S (one1 fun y S1 => bx y S1 fun v S2 => wpE T cal o σ S2 (one1 fun x S3 => wpE T cal k σ S3 (one1 fun z S4 =>
      ∃ a ob kd, x = .d (.ref a) ∧ S4 a = some ob ∧ z = .d kd ∧ mutC .setI ob.cn [.d kd, .d v] S4 fun c _ => ∃ o', c.o = some o' ∧ nx σ (su S4 a o'))))
  | .oseti i k e, σ, S, nx, rt, bk, ct => wpE T cal e σ S (one1 fun y S1 => bx y S1 fun v S2 => ∃ x, σ[i]? = some (some x) ∧ wpE T cal k σ S2 (one1 fun z S3 =>
      ∃ kd, z = .d kd ∧ ownC x fun c => mutC .setI c [.d kd, .d v] S3 fun c' _ => nx (σ.set i (some c'.v)) S3))
  | .fset o ci k e, σ, S, nx, rt, bk, ct => wpE T cal e σ S (one1 fun y S1 => bx y S1 fun v S2 => wpE T cal o σ S2 (one1 fun x S3 =>
      ∃ a fs, x = .d (.ref a) ∧ S3 a = some (.ins ci fs) ∧ k ≤ fs.length ∧ nx σ (su S3 a (.ins ci (setF fs k v)))))
  | .faug o ci k e, σ, S, nx, rt, bk, ct => wpE T cal o σ S (one1 fun x S1 => ∃ a fs i, x = .d (.ref a) ∧ S1 a = some (.ins ci fs) ∧ fs[k]? = some (.int i) ∧ wpE T cal e σ S1 (one1 fun y S2 =>
      ∃ j fs', y = .d (.int j) ∧ S2 a = some (.ins ci fs') ∧ k < fs'.length ∧ nx σ (su S2 a (.ins ci (setF fs' k (.int (i + j)))))))
  | .iff c a r, σ, S, nx, rt, bk, ct => wpE T cal c σ S (one1 (tstK fun b S1 => Br b (wpS a σ S1 nx rt bk ct) (wpS r σ S1 nx rt bk ct)))
  | .whl c a, σ, S, nx, rt, bk, ct => ∃ n, whlN (fun σ' S' K => wpE T cal c σ' S' (one1 (tstK K))) (fun k σ' S' => wpS a σ' S' k rt nx k) nx n σ S
  | .for tg it a, σ, S, nx, rt, bk, ct => wpI T cal it σ S fun J S1 => forL tg J.ok (fun k σ' S' => wpS a σ' S' k rt nx k) nx J.items (dem it σ) S1
  | .ret e, σ, S, nx, rt, bk, ct => wpE T cal e σ S (one1 fun x S1 => stor x (rt x S1))
  | .retn, σ, S, nx, rt, bk, ct => rt (.d .non) S
  | .retv i, σ, S, nx, rt, bk, ct => ∃ x, σ[i]? = some (some x) ∧ stor x (rt x S)
  | .brk, σ, S, nx, rt, bk, ct => bk σ S
  | .cnt, σ, S, nx, rt, bk, ct => ct σ S
  | .box i, σ, S, nx, rt, bk, ct => ∃ x, σ[i]? = some (some x) ∧ bx x S fun d S1 => nx (σ.set i (some (.d d))) S1
  | .om m i as dst, σ, S, nx, rt, bk, ct => ∃ ds, σ[i]? = some (some (.vl ds)) ∧ wpE T cal as σ S fun xs S1 => mutC m (.l ds) xs S1 fun c' r => nx (dstS dst r (σ.set i (some c'.v))) S1
  | .tryp st, σ, S, nx, rt, bk, ct => wpS st σ S nx rt bk ct
  | .lock st, σ, S, nx, rt, bk, ct => ∃ a kvs, S a = some (.dic kvs) ∧ ∀ h, wpS st σ (su S a (.fdc kvs h)) (fun σ' S' => S' a = some (.fdc kvs h) ∧ nx σ' (su S' a (.dic kvs))) (fun x S' => S' a = some (.fdc kvs h) ∧ rt x (su S' a (.dic kvs)))
      (fun σ' S' => S' a = some (.fdc kvs h) ∧ bk σ' (su S' a (.dic kvs))) (fun σ' S' => S' a = some (.fdc kvs h) ∧ ct σ' (su S' a (.dic kvs)))
  | _, _, _, _, _, _, _ => False
end
def own : Vx → Bool
  | .vl _ => true
  | .vd _ => true
  | _ => false
def startS (nl : Nat) (xs : List Vx) : Sl := xs.map some ++ List.replicate (nl - xs.length) none
/-- the call of the def f, at most n calls within one another -/
def cal (T : Tbl) : Nat → Nat → List Vx → Hs → VK2 → Prop
  | 0, _, _, _, _ => False
  | n + 1, f, xs, S, Q => ∃ F, T.fn f = some F ∧ xs.length = F.np ∧ (xs.all fun x => !(own x)) = true ∧ wpS T (cal T n) F.body (startS F.nl xs) S (fun _ S' => Q (.d .non) S') Q (fun _ _ => False) (fun _ _ => False)

/-! ### monotone -/
section
variable {S : Hs} {K K' : Cn → Prop} {Q Q' : VK2}
theorem view_mono {x : Vx} (h : ∀ c, K c → K' c) (w : view x S K) : view x S K' := by
  cases x with
  | d y =>
    cases y with
    | ref a => obtain ⟨o, e, q⟩ := w; exact ⟨o, e, h _ q⟩
    | str s => exact h _ w
    | tup ds => exact h _ w
    | non => exact w
    | bl b => exact w
    | int i => exact w
  | vl _ => exact h _ w
  | bw _ => exact h _ w
  | fz _ => exact h _ w
  | vd _ => exact h _ w
  | bd _ => exact h _ w
  | st _ => exact h _ w
theorem bx_mono {x : Vx} {K K' : D → Hs → Prop} (h : ∀ d S, K d S → K' d S) (w : bx x S K) : bx x S K' := by
  cases x with
  | d y => exact h _ _ w
  | vl ds => exact fun a ha => h _ _ (w a ha)
  | vd ds => exact fun a ha => h _ _ (w a ha)
  | bw _ => exact w
  | fz _ => exact w
  | bd _ => exact w
  | st _ => exact w
theorem addC_mono {a b : Cn} (h : ∀ x S, Q x S → Q' x S) (w : addC a b S Q) : addC a b S Q' := by
  cases a <;> cases b <;> first | exact ⟨w.1, h _ _ w.2⟩ | exact w
theorem addD_mono {x y : Vx} (h : ∀ x S, Q x S → Q' x S) (w : addD x y S Q) : addD x y S Q' := by
  unfold addD at w ⊢
  split at w
  · exact h _ _ w
  · exact ⟨w.1, h _ _ w.2⟩
  · exact ⟨w.1, h _ _ w.2⟩
  · exact view_mono (fun c => view_mono fun c' => addC_mono h) w
theorem mulC_mono {a : Cn} {k : Int} (h : ∀ x S, Q x S → Q' x S) (w : mulC a k S Q) : mulC a k S Q' := by
  cases a <;> first | exact ⟨w.1, w.2.1, h _ _ w.2.2⟩ | exact w
theorem mulD_mono {x y : Vx} (h : ∀ x S, Q x S → Q' x S) (w : mulD x y S Q) : mulD x y S Q' := by
  unfold mulD at w ⊢
  split at w
  · exact ⟨w.1, h _ _ w.2⟩
  · exact ⟨w.1, h _ _ w.2⟩
  · exact ⟨w.1, view_mono (fun c => mulC_mono h) w.2⟩
  · exact w.elim
theorem intD_mono {f g : Int → Int → VK2 → Hs → Prop} {x y : Vx} (h : ∀ i j, f i j Q S → g i j Q' S) (w : intD f x y S Q) : intD g x y S Q' := by
  unfold intD at w ⊢
  split at w
  · exact h _ _ w
  · exact w.elim
theorem idxC_mono {c : Cn} {k : D} (h : ∀ x S, Q x S → Q' x S) (w : idxC c k S Q) : idxC c k S Q' := by
  unfold idxC at w ⊢
  split at w
  · obtain ⟨y, e, q⟩ := w; exact ⟨y, e, h _ _ q⟩
  · obtain ⟨y, e, q⟩ := w; exact ⟨y, e, h _ _ q⟩
  · obtain ⟨y, e, q⟩ := w; exact ⟨y, e, h _ _ q⟩
  · obtain ⟨z, y, e, q⟩ := w; exact ⟨z, y, e, h _ _ q⟩
  · obtain ⟨z, y, e, q⟩ := w; exact ⟨z, y, e, h _ _ q⟩
  · obtain ⟨z, y, e, q⟩ := w; exact ⟨z, y, e, h _ _ q⟩
  · obtain ⟨z, y, e, q⟩ := w; exact ⟨z, y, e, h _ _ q⟩
  · obtain ⟨z, y, e, q⟩ := w; exact ⟨z, y, e, h _ _ q⟩
  · exact w.elim
theorem idxD_mono {x y : Vx} (h : ∀ x S, Q x S → Q' x S) (w : idxD x y S Q) : idxD x y S Q' := by
  cases y with
  | d k => exact view_mono (fun c => idxC_mono h) w
  | _ => exact w
theorem eqC_mono {a b : Cn} {K K' : Bool → Prop} (h : ∀ b, K b → K' b) (w : eqC a b K) : eqC a b K' := by
  cases a <;> cases b <;> first | exact ⟨w.1, h _ w.2⟩ | exact w
theorem eqD_mono {x y : Vx} {K K' : Bool → Prop} (h : ∀ b, K b → K' b) (w : eqD x y S K) : eqD x y S K' := by
  unfold eqD at w ⊢
  split at w
  · exact view_mono (fun c => view_mono fun c' => eqC_mono h) w
  · exact w.elim
  · exact ⟨w.1, w.2.1, h _ w.2.2⟩
  · exact view_mono (fun c => view_mono fun c' => eqC_mono h) w
theorem eqH_mono {x y : Vx} {K K' : Bool → Prop} (h : ∀ b, K b → K' b) (w : eqH x y S K) : eqH x y S K' := let ⟨p, q, h1, h2, h3, h4, k⟩ := w; ⟨p, q, h1, h2, h3, h4, h _ k⟩
theorem memC_mono {c : Cn} {x : D} {K K' : Bool → Prop} (h : ∀ b, K b → K' b) (w : memC c x K) : memC c x K' := by
  unfold memC at w ⊢
  split at w
  · exact ⟨w.1, w.2.1, h _ w.2.2⟩
  · exact ⟨w.1, w.2.1, h _ w.2.2⟩
  · exact ⟨w.1, h _ w.2⟩
  · exact ⟨w.1, h _ w.2⟩
  · exact ⟨w.1, h _ w.2⟩
  · exact ⟨w.1, h _ w.2⟩
  · exact h _ w
  · exact w.elim
theorem memD_mono {x y : Vx} {K K' : Bool → Prop} (h : ∀ b, K b → K' b) (w : memD x y S K) : memD x y S K' := by
  cases x with
  | d k => exact view_mono (fun c => memC_mono h) w
  | _ => exact w
theorem memH_mono {x y : Vx} {K K' : Bool → Prop} (h : ∀ b, K b → K' b) (w : memH x y S K) : memH x y S K' := by
  cases x with
  | d k => exact view_mono (fun c w => by cases c <;> first | exact ⟨w.1, w.2.1, h _ w.2.2⟩ | exact w) w
  | _ => exact w
theorem op2D_mono {o : O2} {x y : Vx} (h : ∀ x S, Q x S → Q' x S) (w : op2D o x y S Q) : op2D o x y S Q' := by
  cases o with
  | add => exact addD_mono h w
  | mul => exact mulD_mono h w
  | idx => exact idxD_mono h w
  | eq => exact eqD_mono (fun b => h _ _) w
  | ne => exact eqD_mono (fun b => h _ _) w
  | eqh => exact eqH_mono (K := fun b => Q (.d (.bl b)) S) (K' := fun b => Q' (.d (.bl b)) S) (fun b => h _ _) w
  | neh => exact eqH_mono (K := fun b => Q (.d (.bl (!b))) S) (K' := fun b => Q' (.d (.bl (!b))) S) (fun b => h _ _) w
  | is => obtain ⟨b, e, q⟩ := w; exact ⟨b, e, h _ _ q⟩
  | isnt => obtain ⟨b, e, q⟩ := w; exact ⟨b, e, h _ _ q⟩
  | mem => exact memD_mono (fun b => h _ _) w
  | nmem => exact memD_mono (fun b => h _ _) w
  | memh => exact memH_mono (K := fun b => Q (.d (.bl b)) S) (K' := fun b => Q' (.d (.bl b)) S) (fun b => h _ _) w
  | nmemh => exact memH_mono (K := fun b => Q (.d (.bl (!b))) S) (K' := fun b => Q' (.d (.bl (!b))) S) (fun b => h _ _) w
  | fdiv => exact intD_mono (fun i j q => ⟨q.1, h _ _ q.2⟩) w
  | mod => exact intD_mono (fun i j q => ⟨q.1, h _ _ q.2⟩) w
  | pow => exact intD_mono (fun i j q => ⟨q.1, h _ _ q.2⟩) w
  | _ => exact intD_mono (fun i j q => h _ _ q) w
theorem op1D_mono {o : O1} {x : Vx} (h : ∀ x S, Q x S → Q' x S) (w : op1D o x S Q) : op1D o x S Q' := by
  cases o with
  | neg => revert w; show negD _ _ _ → negD _ _ _; unfold negD; split <;> first | exact h _ _ | exact id
  | len => exact view_mono (fun c ⟨n, e, q⟩ => ⟨n, e, h _ _ q⟩) w
  | int => revert w; show toIntD _ _ _ → toIntD _ _ _; unfold toIntD; split <;> first | exact h _ _ | exact id
  | str => revert w; show strD _ _ _ → strD _ _ _; unfold strD; split <;> first | exact fun z => ⟨z.1, h _ _ z.2⟩ | exact id
  | list => exact view_mono (fun c ⟨n, e, q⟩ => ⟨n, e, h _ _ q⟩) w
  | tuple => exact view_mono (fun c ⟨n, e, q⟩ => ⟨n, e, h _ _ q⟩) w
  | sorted => exact view_mono (fun c ⟨n, e, q⟩ => ⟨n, e, fun z p p' => h _ _ (q z p p')⟩) w
  | dict => exact view_mono (fun c ⟨n, e, q⟩ => ⟨n, e, h _ _ q⟩) w
  | sortedP => exact view_mono (fun c ⟨n, e, q⟩ => ⟨n, e, fun z p p' => h _ _ (q z p p')⟩) w
  | dictP => exact view_mono (fun c ⟨n, e, q⟩ => ⟨n, e, h _ _ q⟩) w
  | sortedN => exact view_mono (fun c ⟨n, e, e', q⟩ => ⟨n, e, e', fun z p p' => h _ _ (q z p p')⟩) w
  | sortedDn => exact view_mono (fun c ⟨m, n, e, e', e'', q⟩ => ⟨m, n, e, e', e'', fun z p p' => h _ _ (q z p p')⟩) w
  | listK => exact view_mono (fun c ⟨n, e, q⟩ => ⟨n, e, h _ _ q⟩) w
  | listDn => exact view_mono (fun c ⟨n, e, q⟩ => ⟨n, e, h _ _ q⟩) w
  | lenDn => exact view_mono (fun c ⟨n, e, q⟩ => ⟨n, e, h _ _ q⟩) w
  | sum => exact view_mono (fun c ⟨n, e, q⟩ => ⟨n, e, h _ _ q⟩) w
  | maxl => exact view_mono (fun c ⟨n, e, z, q⟩ => ⟨n, e, z, fun m p p' => h _ _ (q m p p')⟩) w
  | minl => exact view_mono (fun c ⟨n, e, z, q⟩ => ⟨n, e, z, fun m p p' => h _ _ (q m p p')⟩) w
  | all => exact view_mono (fun c ⟨n, m, e, e', q⟩ => ⟨n, m, e, e', h _ _ q⟩) w
  | any => exact view_mono (fun c ⟨n, m, e, e', q⟩ => ⟨n, m, e, e', h _ _ q⟩) w
  | isi t => revert w; show isiD _ _ _ _ → isiD _ _ _ _; unfold isiD; split <;> first | exact fun ⟨b, e, q⟩ => ⟨b, e, h _ _ q⟩ | exact h _ _ | exact id
theorem mutC_mono {m : M} {c : Cn} {xs : List Vx} {K K' : Cn → D → Prop} (h : ∀ c r, K c r → K' c r) (w : mutC m c xs S K) : mutC m c xs S K' := by
  unfold mutC at w ⊢
  split at w
  · exact ⟨w.1, h _ _ w.2⟩
  · obtain ⟨y, e, q⟩ := w; exact ⟨y, e, h _ _ q⟩
  · obtain ⟨y, e, q⟩ := w; exact ⟨y, e, h _ _ q⟩
  · exact ⟨w.1, h _ _ w.2⟩
  · exact ⟨w.1, w.2.1, h _ _ w.2.2⟩
  · exact ⟨w.1, w.2.1, h _ _ w.2.2⟩
  · exact ⟨w.1, w.2.1, h _ _ w.2.2⟩
  · exact view_mono (fun c ⟨n, e, z, q⟩ => ⟨n, e, z, h _ _ q⟩) w
  · exact h _ _ w
  · exact w.elim
theorem slcC_mono {c : Cn} {a b : Option Int} (h : ∀ x S, Q x S → Q' x S) (w : slcC c a b S Q) : slcC c a b S Q' := by
  cases c <;> first | exact h _ _ w | exact ⟨w.1, h _ _ w.2⟩ | exact w
theorem bmD_mono {m : BM} {x y : Vx} {Q Q' : VK2} (h : ∀ x S, Q x S → Q' x S) (w : bmD m x y S Q) : bmD m x y S Q' := by
  cases m with
  | index => exact view_mono (fun c ⟨ds, yd, j, z, e1, e2, e3, e4, e5, e6, e7, q⟩ => ⟨ds, yd, j, z, e1, e2, e3, e4, e5, e6, e7, h _ _ q⟩) w
  | count => exact view_mono (fun c ⟨ns, k, e1, e2, q⟩ => ⟨ns, k, e1, e2, h _ _ q⟩) w
  | join => exact view_mono (fun c ⟨s, zs, e1, e2, e3, q⟩ => ⟨s, zs, e1, e2, e3, h _ _ q⟩) w
  | split => obtain ⟨s, t, e1, e2, e3, e4, q⟩ := w; exact ⟨s, t, e1, e2, e3, e4, h _ _ q⟩
theorem one1_mono {xs : List Vx} (h : ∀ x S, Q x S → Q' x S) (w : one1 Q xs S) : one1 Q' xs S := by
  unfold one1 at w ⊢
  split at w
  · exact h _ _ w
  · exact w.elim
theorem tstK_mono {x : Vx} {K K' : Bool → Hs → Prop} (h : ∀ b S, K b S → K' b S) (w : tstK K x S) : tstK K' x S := by
  unfold tstK at w ⊢
  split at w
  · exact h _ _ w
  · exact w.elim
theorem Br.mono {b : Bool} {A A' B B' : Prop} (h : A → A') (h' : B → B') (w : Br b A B) : Br b A' B' := ⟨fun e => h (w.t e), fun e => h' (w.f e)⟩
theorem bindT_mono {tg : Tg} {x : D} {σ : Sl} {K K' : Sl → Prop} (h : ∀ σ, K σ → K' σ) (w : bindT tg x σ K) : bindT tg x σ K' := by
  unfold bindT at w ⊢
  split at w
  · exact h _ w
  · obtain ⟨σ', e, q⟩ := w; exact ⟨σ', e, h _ q⟩
  · exact w.elim
theorem ownC_mono {x : Vx} (h : ∀ c, K c → K' c) (w : ownC x K) : ownC x K' := by
  cases x <;> first | exact h _ w | exact w
theorem stor_mono {x : Vx} {P P' : Prop} (h : P → P') (w : stor x P) : stor x P' := by
  cases x <;> first | exact h w | exact w
theorem compL_mono {tg : Tg} {ok : Sl → Hs → Prop} {e e' : Sl → Hs → (D → Hs → Prop) → Prop} {t t' : Sl → Hs → (Bool → Hs → Prop) → Prop} {σ : Sl} {K K' : List D → Hs → Prop}
    (he : ∀ σ S K K', (∀ d S, K d S → K' d S) → e σ S K → e' σ S K') (ht : ∀ σ S K K', (∀ d S, K d S → K' d S) → t σ S K → t' σ S K') (h : ∀ a S, K a S → K' a S) :
    ∀ (xs acc : List D) (S : Hs), compL tg ok e t σ xs acc S K → compL tg ok e' t' σ xs acc S K'
  | [], _, _, w => ⟨w.1, h _ _ w.2⟩
  | x :: xs, acc, S, w => ⟨w.1, bindT_mono (fun σ' q => ht _ _ _ _ (fun b S1 r => Br.mono (he _ _ _ _ fun y S2 z => ⟨z.1, compL_mono he ht h xs _ _ z.2⟩) (compL_mono he ht h xs _ _) r) q) w.2⟩
end
theorem srcX_mono {l : Bool} {x : Vx} {S : Hs} {K K' : It2 → Hs → Prop} (h : ∀ J S, K J S → K' J S) (w : srcX l x S K) : srcX l x S K' := by
  unfold srcX at w ⊢
  split at w
  · exact h _ _ w
  · obtain ⟨ds, e, q⟩ := w; exact ⟨ds, e, h _ _ q⟩
  · exact h _ _ w
  · exact h _ _ w
  · exact h _ _ w
  · exact w.elim
def CalMono (c : Nat → List Vx → Hs → VK2 → Prop) : Prop := ∀ f xs S (Q Q' : VK2), (∀ x S, Q x S → Q' x S) → c f xs S Q → c f xs S Q'
section
variable {T : Tbl} {c : Nat → List Vx → Hs → VK2 → Prop}
theorem wp_mono (hc : CalMono c) (r : R) : (∀ σ S (Q Q' : LK2), (∀ x S, Q x S → Q' x S) → wpE T c r σ S Q → wpE T c r σ S Q') ∧ (∀ σ S (K K' : It2 → Hs → Prop), (∀ x S, K x S → K' x S) → wpI T c r σ S K → wpI T c r σ S K') := by
  induction r with
  | v i => exact ⟨fun σ S Q Q' h ⟨x, e, q⟩ => ⟨x, e, h _ _ q⟩, fun σ S K K' h w => w⟩
  | i n => exact ⟨fun σ S Q Q' h w => h _ _ w, fun σ S K K' h w => w⟩
  | s n => exact ⟨fun σ S Q Q' h w => h _ _ w, fun σ S K K' h w => w⟩
  | b n => exact ⟨fun σ S Q Q' h w => h _ _ w, fun σ S K K' h w => w⟩
  | n => exact ⟨fun σ S Q Q' h w => h _ _ w, fun σ S K K' h w => w⟩
  | g k => exact ⟨fun σ S Q Q' h w => h _ _ w, fun σ S K K' h w => w⟩
  | nil => exact ⟨fun σ S Q Q' h w => h _ _ w, fun σ S K K' h w => w⟩
  | dct => exact ⟨fun σ S Q Q' h w => h _ _ w, fun σ S K K' h w => w⟩
  | o1 o a ih => exact ⟨fun σ S Q Q' h w => ih.1 _ _ _ _ (fun xs S1 => one1_mono fun x S => op1D_mono fun z S => h _ _) w, fun σ S K K' h w => w⟩
  | o2 o a b iha ihb => exact ⟨fun σ S Q Q' h w => iha.1 _ _ _ _ (fun xs S1 => one1_mono fun x S => ihb.1 _ _ _ _ (fun ys S2 => one1_mono fun y S => op2D_mono fun z S => h _ _)) w, fun σ S K K' h w => w⟩
  | cons a b iha ihb => exact ⟨fun σ S Q Q' h w => iha.1 _ _ _ _ (fun xs S1 => one1_mono fun x S => ihb.1 _ _ _ _ (fun ys S2 => h _ _)) w, fun σ S K K' h w => w⟩
  | consb a b iha ihb => exact ⟨fun σ S Q Q' h w => iha.1 _ _ _ _ (fun xs S1 => one1_mono fun x S => bx_mono fun d S => ihb.1 _ _ _ _ (fun ys S2 => h _ _)) w, fun σ S K K' h w => w⟩
  | tup as ih => exact ⟨fun σ S Q Q' h w => ih.1 _ _ _ _ (fun xs S1 ⟨ds, e, z, q⟩ => ⟨ds, e, z, h _ _ q⟩) w, fun σ S K K' h w => w⟩
  | lst as ih => exact ⟨fun σ S Q Q' h w => ih.1 _ _ _ _ (fun xs S1 ⟨ds, e, z, q⟩ => ⟨ds, e, z, h _ _ q⟩) w, fun σ S K K' h w => w⟩
  | pr k v r ihk ihv ihr => exact ⟨fun σ S Q Q' h w => ihk.1 _ _ _ _ (fun xs S1 => one1_mono fun x S => ihv.1 _ _ _ _ (fun ys S2 => one1_mono fun y S => bx_mono fun d S => ihr.1 _ _ _ _ (fun ys S2 => h _ _))) w, fun σ S K K' h w => w⟩
  | dctp as ih => exact ⟨fun σ S Q Q' h w => ih.1 _ _ _ _ (fun xs S1 ⟨ds, e, z, q⟩ => ⟨ds, e, z, h _ _ q⟩) w, fun σ S K K' h w => w⟩
  | dpop o k iho ihk => exact ⟨fun σ S Q Q' h w => iho.1 _ _ _ _ (fun xs S1 => one1_mono fun x S ⟨a, kvs0, e1, e2, q⟩ => ⟨a, kvs0, e1, e2, ihk.1 _ _ _ _ (fun ys S2 => one1_mono fun y S ⟨kvs, ky, v, e1, e2, e3, e4, q⟩ => ⟨kvs, ky, v, e1, e2, e3, e4, h _ _ q⟩) q⟩) w, fun σ S K K' h w => w⟩
  | get1 o k iho ihk => exact ⟨fun σ S Q Q' h w => iho.1 _ _ _ _ (fun xs S1 => one1_mono fun x S q => ⟨q.1, ihk.1 _ _ _ _ (fun ys S2 => one1_mono fun y S => view_mono fun c ⟨kvs, ky, e1, e2, e3, q⟩ => ⟨kvs, ky, e1, e2, e3, h _ _ q⟩) q.2⟩) w, fun σ S K K' h w => w⟩
  | get2 o k d iho ihk ihd => exact ⟨fun σ S Q Q' h w => iho.1 _ _ _ _ (fun xs S1 => one1_mono fun x S q => ⟨q.1, ihk.1 _ _ _ _ (fun ys S2 => one1_mono fun y S => ihd.1 _ _ _ _ (fun zs S3 => one1_mono fun z S => view_mono fun c ⟨kvs, ky, dz, e1, e2, e3, e4, q⟩ => ⟨kvs, ky, dz, e1, e2, e3, e4, h _ _ q⟩)) q.2⟩) w, fun σ S K K' h w => w⟩
  | and a b iha ihb => exact ⟨fun σ S Q Q' h w => iha.1 _ _ _ _ (fun xs S1 => one1_mono fun x S => tstK_mono fun b S => Br.mono (ihb.1 _ _ _ _ h) (h _ _)) w, fun σ S K K' h w => w⟩
  | or a b iha ihb => exact ⟨fun σ S Q Q' h w => iha.1 _ _ _ _ (fun xs S1 => one1_mono fun x S => tstK_mono fun b S => Br.mono (h _ _) (ihb.1 _ _ _ _ h)) w, fun σ S K K' h w => w⟩
  | one a ih => exact ⟨fun σ S Q Q' h w => ih.1 _ _ _ _ (fun xs S1 => one1_mono fun x S => tstK_mono fun b S => h _ _) w, fun σ S K K' h w => w⟩
  | not a ih => exact ⟨fun σ S Q Q' h w => ih.1 _ _ _ _ (fun xs S1 => one1_mono fun x S => tstK_mono fun b S => h _ _) w, fun σ S K K' h w => w⟩
  | ife k a b ihk iha ihb => exact ⟨fun σ S Q Q' h w => ihk.1 _ _ _ _ (fun xs S1 => one1_mono fun x S => tstK_mono fun b S => Br.mono (iha.1 _ _ _ _ fun xs S => one1_mono fun x S => h _ _) (ihb.1 _ _ _ _ fun xs S => one1_mono fun x S => h _ _)) w, fun σ S K K' h w => w⟩
  | chain o o' a b k iha ihb ihk => exact ⟨fun σ S Q Q' h w => iha.1 _ _ _ _ (fun xs S1 => one1_mono fun x S => ihb.1 _ _ _ _ (fun ys S2 => one1_mono fun y S => op2D_mono fun z S => tstK_mono fun b S => Br.mono
      (ihk.1 _ _ _ _ fun ys S2 => one1_mono fun y S => op2D_mono fun z S => tstK_mono fun b S => h _ _) (h _ _))) w, fun σ S K K' h w => w⟩
  | slc a b k iha ihb ihk => exact ⟨fun σ S Q Q' h w => iha.1 _ _ _ _ (fun xs S1 => one1_mono fun x S => ihb.1 _ _ _ _ (fun ys S2 => one1_mono fun y S ⟨l, e, q⟩ => ⟨l, e, ihk.1 _ _ _ _ (fun ys S2 => one1_mono fun z S ⟨u, e', q⟩ => ⟨u, e', view_mono (fun c => slcC_mono fun x S => h _ _) q⟩) q⟩)) w, fun σ S K K' h w => w⟩
  | call f as ih => exact ⟨fun σ S Q Q' h w => ih.1 _ _ _ _ (fun xs S1 => hc _ _ _ _ _ fun x S => h _ _) w, fun σ S K K' h w => w⟩
  | meth f o as iho ih => exact ⟨fun σ S Q Q' h w => iho.1 _ _ _ _ (fun xs S1 => one1_mono fun x S ⟨a, fs, e, e', q⟩ => ⟨a, fs, e, e', ih.1 _ _ _ _ (fun xs S1 => hc _ _ _ _ _ fun x S => h _ _) q⟩) w, fun σ S K K' h w => w⟩
  | make k as ih => exact ⟨fun σ S Q Q' h w => ih.1 _ _ _ _ (fun xs S1 q a ha => hc _ _ _ _ _ (fun x S z => ⟨z.1, h _ _ z.2⟩) (q a ha)) w, fun σ S K K' h w => w⟩
  | fld o ci k ih => exact ⟨fun σ S Q Q' h w => ih.1 _ _ _ _ (fun xs S1 => one1_mono fun x S ⟨a, fs, e, e', y, z, q⟩ => ⟨a, fs, e, e', y, z, h _ _ q⟩) w, fun σ S K K' h w => w⟩
  | hm m o as iho ih => exact ⟨fun σ S Q Q' h w => iho.1 _ _ _ _ (fun xs S1 => one1_mono fun x S => bx_mono fun d S ⟨a, ds, e, e', q⟩ => ⟨a, ds, e, e', ih.1 _ _ _ _ (fun xs S ⟨ob, z, q⟩ => ⟨ob, z, mutC_mono (fun c r ⟨o', z, q⟩ => ⟨o', z, h _ _ q⟩) q⟩) q⟩) w, fun σ S K K' h w => w⟩
  | comp tg elt it tst ihe ihi iht => exact ⟨fun σ S Q Q' h w => ihi.2 _ _ _ _ (fun J S => compL_mono (fun σ S K K' h => ihe.1 σ S (one1 fun y S2 => bx y S2 K) (one1 fun y S2 => bx y S2 K') fun xs S => one1_mono fun x S => bx_mono h) (fun σ S K K' h => iht.1 σ S (one1 (tstK K)) (one1 (tstK K')) fun xs S => one1_mono fun x S => tstK_mono h) (fun a S => h [.vl a] S) _ _ _) w, fun σ S K K' h w => w⟩
  | itv i => exact ⟨fun σ S Q Q' h w => w, fun σ S K K' h ⟨x, e, w⟩ => ⟨x, e, srcX_mono h w⟩⟩
  | ite e ih => exact ⟨fun σ S Q Q' h w => w, fun σ S K K' h w => ih.1 _ _ _ _ (fun xs S => one1_mono fun x S => srcX_mono h) w⟩
  | rng a ih => exact ⟨fun σ S Q Q' h w => w, fun σ S K K' h w => ih.1 _ _ _ _ (fun xs S => one1_mono fun x S ⟨n, e, z, z', q⟩ => ⟨n, e, z, z', h _ _ q⟩) w⟩
  | rng2 a b iha ihb => exact ⟨fun σ S Q Q' h w => w, fun σ S K K' h w => iha.1 _ _ _ _ (fun xs S => one1_mono fun x S => ihb.1 _ _ _ _ fun xs S => one1_mono fun x S ⟨n, m, e, e', z, q⟩ => ⟨n, m, e, e', z, h _ _ q⟩) w⟩
  | enu a ih => exact ⟨fun σ S Q Q' h w => w, fun σ S K K' h w => ih.2 _ _ _ _ (fun J S => h _ _) w⟩
  | sIt e ih => exact ⟨fun σ S Q Q' h w => ih.1 _ _ _ _ (fun xs S1 => one1_mono fun x S => view_mono fun c ⟨ps, e, z, q⟩ => ⟨ps, e, z, fun qs p p' => h _ _ (q qs p p')⟩) w, fun σ S K K' h w => w⟩
  | rev e ih => exact ⟨fun σ S Q Q' h w => ih.1 _ _ _ _ (fun xs S1 => one1_mono fun x S => view_mono fun c ⟨ps, e, q⟩ => ⟨ps, e, h _ _ q⟩) w, fun σ S K K' h w => w⟩
  | lrg e ih => exact ⟨fun σ S Q Q' h w => ih.1 _ _ _ _ (fun xs S1 => one1_mono fun x S ⟨n, e, z1, z2, q⟩ => ⟨n, e, z1, z2, h _ _ q⟩) w, fun σ S K K' h w => w⟩
  | bm1 m o a iho iha => exact ⟨fun σ S Q Q' h w => iho.1 _ _ _ _ (fun xs S1 => one1_mono fun x S ⟨ty, q⟩ => ⟨ty, iha.1 _ _ _ _ (fun ys S2 => one1_mono fun y S => bmD_mono fun z S3 => h _ _) q⟩) w, fun σ S K K' h w => w⟩
  | upper o ih => exact ⟨fun σ S Q Q' h w => ih.1 _ _ _ _ (fun xs S1 => one1_mono fun x S ⟨s, e, z, q⟩ => ⟨s, e, z, h _ _ q⟩) w, fun σ S K K' h w => w⟩
  | setlen a ih => exact ⟨fun σ S Q Q' h w => ih.1 _ _ _ _ (fun xs S1 => one1_mono fun x S => view_mono fun c ⟨ns, e, z1, z2, q⟩ => ⟨ns, e, z1, z2, h _ _ q⟩) w, fun σ S K K' h w => w⟩
  | dctn => exact ⟨fun σ S Q Q' h w a ha => h _ _ (w a ha), fun σ S K K' h w => w⟩
  | lend i e ih => exact ⟨fun σ S Q Q' h ⟨a, ds, e1, e2, w⟩ => ⟨a, ds, e1, e2, ih.1 _ _ _ _ (fun xs S q => ⟨q.1, h _ _ q.2⟩) w⟩, fun σ S K K' h w => w⟩
  | lockEN e ih => exact ⟨fun σ S Q Q' h ⟨a, kvs, e1, w⟩ => ⟨a, kvs, e1, fun z ns => ih.1 _ _ _ _ (fun xs S q => ⟨q.1, h _ _ q.2⟩) (w z ns)⟩, fun σ S K K' h w => w⟩
  | stp a k iha ihk => exact ⟨fun σ S Q Q' h w => iha.1 _ _ _ _ (fun xs S1 => one1_mono fun x S => ihk.1 _ _ _ _ fun ys S2 => one1_mono fun y S ⟨z, e, hz, q⟩ => ⟨z, e, hz, view_mono (fun c ⟨ds, e, q⟩ => ⟨ds, e, h _ _ q⟩) q⟩) w, fun σ S K K' h w => w⟩
  | lockE e ih => exact ⟨fun σ S Q Q' h ⟨a, kvs, e1, w⟩ => ⟨a, kvs, e1, fun z => ih.1 _ _ _ _ (fun xs S q => ⟨q.1, h _ _ q.2⟩) (w z)⟩, fun σ S K K' h w => w⟩
  | itk e ih => exact ⟨fun σ S Q Q' h w => w, fun σ S K K' h w => ih.1 _ _ _ _ (fun xs S => one1_mono fun x S ⟨a, kvs, z, e1, e2, q⟩ => ⟨a, kvs, z, e1, e2, h _ _ q⟩) w⟩
  | enuk e ih => exact ⟨fun σ S Q Q' h w => w, fun σ S K K' h w => ih.1 _ _ _ _ (fun xs S => one1_mono fun x S ⟨a, kvs, z, e1, e2, q⟩ => ⟨a, kvs, z, e1, e2, h _ _ q⟩) w⟩
  | itkn e ih => exact ⟨fun σ S Q Q' h w => w, fun σ S K K' h w => ih.1 _ _ _ _ (fun xs S => one1_mono fun x S ⟨a, kvs, z, ns, e1, e2, q⟩ => ⟨a, kvs, z, ns, e1, e2, h _ _ q⟩) w⟩
  | itms e ih => exact ⟨fun σ S Q Q' h w => w, fun σ S K K' h w => ih.1 _ _ _ _ (fun xs S => one1_mono fun x S ⟨a, kvs, z, e1, e2, q⟩ => ⟨a, kvs, z, e1, e2, h _ _ q⟩) w⟩
  | zip a b iha ihb => exact ⟨fun σ S Q Q' h w => w, fun σ S K K' h w => iha.2 _ _ _ _ (fun J S => ihb.2 _ _ _ _ fun J S q => ⟨q.1, q.2.1, h _ _ q.2.2⟩) w⟩
  | _ => exact ⟨fun σ S Q Q' h w => w, fun σ S K K' h w => w⟩
theorem wpE_mono (hc : CalMono c) {r : R} {σ : Sl} {S : Hs} {Q Q' : LK2} (w : wpE T c r σ S Q) (h : ∀ x S, Q x S → Q' x S) : wpE T c r σ S Q' := (wp_mono hc r).1 _ _ _ _ h w
theorem wpI_mono (hc : CalMono c) {r : R} {σ : Sl} {S : Hs} {Q Q' : It2 → Hs → Prop} (w : wpI T c r σ S Q) (h : ∀ x S, Q x S → Q' x S) : wpI T c r σ S Q' := (wp_mono hc r).2 _ _ _ _ h w
theorem forL_mono {tg : Tg} {ok : Sl → Hs → Prop} {b b' : (Sl → Hs → Prop) → Sl → Hs → Prop} {nx nx' : Sl → Hs → Prop} (hb : ∀ k k' σ S, (∀ σ S, k σ S → k' σ S) → b k σ S → b' k' σ S) (hn : ∀ σ S, nx σ S → nx' σ S) :
    ∀ (xs : List D) (σ : Sl) (S : Hs), forL tg ok b nx xs σ S → forL tg ok b' nx' xs σ S
  | [], _, _, w => ⟨w.1, hn _ _ w.2⟩
  | x :: xs, σ, S, w => ⟨w.1, bindT_mono (fun σ' => hb _ _ _ _ (forL_mono hb hn xs)) w.2⟩
theorem whlN_mono {t t' : Sl → Hs → (Bool → Hs → Prop) → Prop} {b b' : (Sl → Hs → Prop) → Sl → Hs → Prop} {nx nx' : Sl → Hs → Prop} (ht : ∀ σ S K K', (∀ b S, K b S → K' b S) → t σ S K → t' σ S K')
    (hb : ∀ k k' σ S, (∀ σ S, k σ S → k' σ S) → b k σ S → b' k' σ S) (hn : ∀ σ S, nx σ S → nx' σ S) : ∀ (n : Nat) (σ : Sl) (S : Hs), whlN t b nx n σ S → whlN t' b' nx' n σ S
  | 0, _, _, w => w
  | n + 1, σ, S, w => ht _ _ _ _ (fun b S => Br.mono (hb _ _ _ _ (whlN_mono ht hb hn n)) (hn _ _)) w
theorem wpS_mono (hc : CalMono c) {r : R} : ∀ {σ : Sl} {S : Hs} {nx nx' : SK2} {rt rt' : VK2} {bk bk' ct ct' : SK2}, (∀ σ S, nx σ S → nx' σ S) → (∀ x S, rt x S → rt' x S) → (∀ σ S, bk σ S → bk' σ S) → (∀ σ S, ct σ S → ct' σ S) →
    wpS T c r σ S nx rt bk ct → wpS T c r σ S nx' rt' bk' ct' := by
  induction r with
  | seq a r iha ihr => exact fun h1 h2 h3 h4 w => iha (fun σ S => ihr h1 h2 h3 h4) h2 h3 h4 w
  | skip => exact fun h1 h2 h3 h4 w => h1 _ _ w
  | expr e => exact fun h1 h2 h3 h4 w => wpE_mono hc w fun xs S => one1_mono fun x S => h1 _ _
  | set i e => exact fun h1 h2 h3 h4 w => wpE_mono hc w fun xs S => one1_mono fun x S => stor_mono (h1 _ _)
  | setT is e => exact fun h1 h2 h3 h4 w => wpE_mono hc w fun xs S => one1_mono fun x S => view_mono fun c ⟨ds, e, σ', e', q⟩ => ⟨ds, e, σ', e', h1 _ _ q⟩
  | seti o k e => exact fun h1 h2 h3 h4 w => wpE_mono hc w fun xs S => one1_mono fun x S => bx_mono fun d S q => wpE_mono hc q fun xs S => one1_mono fun x S q => wpE_mono hc q fun xs S => one1_mono fun x S ⟨a, ob, kd, e1, e2, e3, q⟩ =>
      ⟨a, ob, kd, e1, e2, e3, mutC_mono (fun c r ⟨o', z, q⟩ => ⟨o', z, h1 _ _ q⟩) q⟩
  | oseti i k e => exact fun h1 h2 h3 h4 w => wpE_mono hc w fun xs S => one1_mono fun x S => bx_mono fun d S ⟨x, e1, q⟩ => ⟨x, e1, wpE_mono hc q fun xs S => one1_mono fun x S ⟨kd, e2, q⟩ =>
      ⟨kd, e2, ownC_mono (fun c => mutC_mono fun c r => h1 _ _) q⟩⟩
  | fset o ci k e => exact fun h1 h2 h3 h4 w => wpE_mono hc w fun xs S => one1_mono fun x S => bx_mono fun d S q => wpE_mono hc q fun xs S => one1_mono fun x S ⟨a, fs, e1, e2, e3, q⟩ => ⟨a, fs, e1, e2, e3, h1 _ _ q⟩
  | faug o ci k e => exact fun h1 h2 h3 h4 w => wpE_mono hc w fun xs S => one1_mono fun x S ⟨a, fs, i, e1, e2, e3, q⟩ => ⟨a, fs, i, e1, e2, e3, wpE_mono hc q fun xs S => one1_mono fun x S ⟨j, fs', e1, e2, e3, q⟩ => ⟨j, fs', e1, e2, e3, h1 _ _ q⟩⟩
  | iff k a r _ iha ihr => exact fun h1 h2 h3 h4 w => wpE_mono hc w fun xs S => one1_mono fun x S => tstK_mono fun b S => Br.mono (iha h1 h2 h3 h4) (ihr h1 h2 h3 h4)
  | whl k a _ iha => exact fun h1 h2 h3 h4 ⟨n, w⟩ => ⟨n, whlN_mono (fun σ S K K' h (q : wpE T c k σ S (one1 (tstK K))) => (wpE_mono hc q (fun xs S => one1_mono fun x S => tstK_mono h) : wpE T c k σ S (one1 (tstK K')))) (fun k k' σ S h => iha (σ := σ) (S := S) h h2 h1 h) h1 n _ _ w⟩
  | «for» tg it a _ iha => exact fun h1 h2 h3 h4 w => wpI_mono hc w fun J S => forL_mono (fun k k' σ S h => iha (σ := σ) (S := S) h h2 h1 h) h1 _ _ _
  | ret e => exact fun h1 h2 h3 h4 w => wpE_mono hc w fun xs S => one1_mono fun x S => stor_mono (h2 _ _)
  | retn => exact fun h1 h2 h3 h4 w => h2 _ _ w
  | retv i => exact fun h1 h2 h3 h4 ⟨x, e, w⟩ => ⟨x, e, stor_mono (h2 _ _) w⟩
  | brk => exact fun h1 h2 h3 h4 w => h3 _ _ w
  | cnt => exact fun h1 h2 h3 h4 w => h4 _ _ w
  | box i => exact fun h1 h2 h3 h4 ⟨x, e, w⟩ => ⟨x, e, bx_mono (fun d S => h1 _ _) w⟩
  | tryp st ih => exact fun h1 h2 h3 h4 w => ih h1 h2 h3 h4 w
  | lock st ih => exact fun h1 h2 h3 h4 ⟨a, kvs, e, w⟩ => ⟨a, kvs, e, fun z => ih (fun σ S q => ⟨q.1, h1 _ _ q.2⟩) (fun x S q => ⟨q.1, h2 _ _ q.2⟩) (fun σ S q => ⟨q.1, h3 _ _ q.2⟩) (fun σ S q => ⟨q.1, h4 _ _ q.2⟩) (w z)⟩
  | om m i as dst => exact fun h1 h2 h3 h4 ⟨x, e, w⟩ => ⟨x, e, wpE_mono hc w fun xs S q => mutC_mono (fun c r => h1 _ _) q⟩
  | _ => exact fun h1 h2 h3 h4 w => w
end
theorem cal_mono {T : Tbl} : ∀ n, CalMono (cal T n)
  | 0 => fun _ _ _ _ _ _ w => w
  | n + 1 => fun f xs S Q Q' h ⟨F, e, l, o, w⟩ => ⟨F, e, l, o, wpS_mono (cal_mono n) (fun σ S => h _ _) h (fun _ _ z => z) (fun _ _ z => z) w⟩
end DL

/-! DL2: how data stand in the hand layer's heap; the operators are sound. -/
namespace DL
open PySem L2 PySem.Spec PyProof.Rows
abbrev Frag := PySem.W.Frag
abbrev sv (s : List Nat) : Str := ⟨s.toArray⟩
/-! data as values -/
mutual
def RepV (K : Frag) (H : Hp) : D → V → Prop
  | .non, v => v = .non
  | .bl b, v => v = .bl b
  | .int i, v => v = .int i
  | .str s, v => v = .str (sv s)
  | .ref a, v => v = .ref a
  | .tup ds, v => ∃ t vs, v = .ref t ∧ SqT K H t vs ∧ RepL K H ds vs
def RepL (K : Frag) (H : Hp) : List D → List V → Prop
  | [], vs => vs = []
  | d :: ds, vs => ∃ v vr, vs = v :: vr ∧ RepV K H d v ∧ RepL K H ds vr
end
/-- the classes' places and fields -/
structure Cls2 where
  adr : Nat → Addr
  lay : Nat → List Str
  w : World
def KeyR : D → Key → Prop
  | .int i, k => k = .inl i
  | .str s, k => k = .inr (sv s)
  | _, _ => False
def DicR (K : Frag) (H : Hp) (kvs : List (D × D)) (ks : List (Key × V)) : Prop := Paired (fun (p : D × D) (q : Key × V) => KeyR p.1 q.1 ∧ RepV K H p.2 q.2) kvs ks
/-! a key's kind, as the kit has it -/
mutual
def nkD : D → NestedKey
  | .non => .none
  | .bl b => .num (if b then 1 else 0)
  | .int i => .num i
  | .str s => .text (sv s)
  | .ref _ => .none
  | .tup ds => .tup (nkDs ds)
def nkDs : List D → List NestedKey
  | [] => []
  | d :: ds => nkD d :: nkDs ds
end
abbrev NE := NestedKey × Addr × Value
def entN (w : World) (x : NE) : DictEntry := ⟨x.1.hash w, .ref x.2.1, x.2.2⟩
def dnP (w : World) (a : Addr) (xs : List NE) (h : Heap) : Prop := ∃ o es ep, h.get? a = some o ∧ o.ExactDict ∧ o.data = .dict es ep ∧ es.toList = xs.map (entN w)
/-- a dict whose keys are tuples -/
def dnO (w : World) (a : Addr) (xs : List NE) : HO := .ext (dnP w a xs)
def DnE (K : Frag) (H : Hp) (p : D × D) (x : NE) : Prop := keyN p.1 = true ∧ x.1 = nkD p.1 ∧ RepV K H p.1 (.ref x.2.1) ∧ ∃ v, RelV v x.2.2 ∧ RepV K H p.2 v
def DnR (K : Frag) (H : Hp) (kvs : List (D × D)) (xs : List NE) : Prop := Paired (DnE K H) kvs xs
structure DnOk (K : Frag) (H : Hp) (a : Addr) (kvs : List (D × D)) (xs : List NE) : Prop where
  r : DnR K H kvs xs
  nd : (xs.map (·.1)).Nodup
  z : xs.length ≤ sizeLine
  m : (a == sysModules) = false
def RelO (K : Frag) (cx : Cls2) (H : Hp) (a : Addr) : O → Prop
  | .lst ds => ∃ vs, H a = some (.lst vs) ∧ RepL K H ds vs
  | .dic kvs => ∃ ks, H a = some (.dK ks) ∧ DicR K H kvs ks
  | .fdc kvs h => H a = some h ∧ ∃ o ks, h = .frz o (.dK ks) ∧ DicR K H kvs ks
  | .dn kvs => ∃ xs, H a = some (dnO cx.w a xs) ∧ DnOk K H a kvs xs
  | .fdn kvs h xs => H a = some h ∧ ∃ o, h = .frz o (dnO cx.w a xs) ∧ DnOk K H a kvs xs
  | .ins c fs => ∃ dx fv, H a = some (.ins (cx.adr c) dx fv) ∧ fv.map Prod.fst = (cx.lay c).take fs.length ∧ fs.length ≤ (cx.lay c).length ∧ RepL K H fs (fv.map Prod.snd)
def Rel (K : Frag) (cx : Cls2) (S : Hs) (H : Hp) : Prop := ∀ a o, S a = some o → RelO K cx H a o
def RepX (K : Frag) (H : Hp) (S : Hs) : Vx → V → Prop
  | .d x, v => RepV K H x v
  | .vl ds, v => ∃ a vs, v = .ref a ∧ H a = some (.lst vs) ∧ S a = none ∧ RepL K H ds vs
  | .bw ds, v => ∃ a vs, v = .ref a ∧ H a = some (.lst vs) ∧ S a = none ∧ RepL K H ds vs
  | .fz ds, v => ∃ a vs, v = .ref a ∧ ((∃ o, H a = some (.frz o (.lst vs)) ∧ S a = none) ∨ SqL K (fun _ => none) a vs) ∧ RepL K H ds vs
  | .vd kvs, v => ∃ a ks, v = .ref a ∧ H a = some (.dK ks) ∧ S a = none ∧ DicR K H kvs ks
  | .bd kvs, v => ∃ a ks, v = .ref a ∧ H a = some (.dK ks) ∧ S a = none ∧ DicR K H kvs ks
  | .st _, _ => False
/-- a result: what nobody else holds was made since H0 -/
def RepR (K : Frag) (H0 H : Hp) (S : Hs) (x : Vx) (v : V) : Prop := RepX K H S x v ∧ (own x = true → ∃ a, v = .ref a ∧ H0 a = none)
structure Keep (S S' : Hs) (H H' : Hp) : Prop where
  kp : ∀ b o, H b = some o → S b = none → H' b = some o ∧ S' b = none
  up : ∀ b, H' b = none → H b = none
theorem Keep.refl {S : Hs} {H : Hp} : Keep S S H H := ⟨fun b o e n => ⟨e, n⟩, fun _ e => e⟩
theorem Keep.trans {S1 S2 S3 : Hs} {H1 H2 H3 : Hp} (a : Keep S1 S2 H1 H2) (b : Keep S2 S3 H2 H3) : Keep S1 S3 H1 H3 :=
  ⟨fun c o e n => let ⟨e', n'⟩ := a.kp c o e n; b.kp c o e' n', fun c e => a.up c (b.up c e)⟩
section
variable {K : Frag} {cx : Cls2} {S S' : Hs} {H H' H0 : Hp}
/-- no tuple goes -/
def TupS (K : Frag) (H H' : Hp) : Prop := ∀ t vs, SqT K H t vs → SqT K H' t vs
mutual
theorem RepV.keep (h : TupS K H H') : ∀ (d : D) (v : V), RepV K H d v → RepV K H' d v
  | .non, _, r => r
  | .bl _, _, r => r
  | .int _, _, r => r
  | .str _, _, r => r
  | .ref _, _, r => r
  | .tup ds, _, ⟨t, vs, e, q, r⟩ => ⟨t, vs, e, h _ _ q, RepL.keep h ds vs r⟩
theorem RepL.keep (h : TupS K H H') : ∀ (ds : List D) (vs : List V), RepL K H ds vs → RepL K H' ds vs
  | [], _, r => r
  | d :: ds, _, ⟨v, vr, e, r, rr⟩ => ⟨v, vr, e, RepV.keep h d v r, RepL.keep h ds vr rr⟩
end
theorem DicR.keep (h : TupS K H H') {kvs : List (D × D)} {ks : List (Key × V)} (r : DicR K H kvs ks) : DicR K H' kvs ks := Paired.mapP r fun p q z => ⟨z.1, RepV.keep h _ _ z.2⟩
theorem DnOk.keep (h : TupS K H H') {a : Addr} {kvs : List (D × D)} {xs : List NE} (r : DnOk K H a kvs xs) : DnOk K H' a kvs xs := ⟨Paired.mapP r.r fun p q z => ⟨z.1, z.2.1, RepV.keep h _ _ z.2.2.1, let ⟨v, h1, h2⟩ := z.2.2.2; ⟨v, h1, RepV.keep h _ _ h2⟩⟩, r.nd, r.z, r.m⟩
theorem RepL.nil : RepL K H [] [] := rfl
theorem RepL.cons {d : D} {ds : List D} {v : V} {vs : List V} (r : RepV K H d v) (rr : RepL K H ds vs) : RepL K H (d :: ds) (v :: vs) := ⟨v, vs, rfl, r, rr⟩
theorem RepL.length : ∀ {ds : List D} {vs : List V}, RepL K H ds vs → ds.length = vs.length
  | [], _, e => by cases e; rfl
  | d :: ds, _, ⟨v, vr, e, r, rr⟩ => by subst e; simp [RepL.length rr]
theorem RepL.get : ∀ {ds : List D} {vs : List V} {i : Nat} {d : D}, RepL K H ds vs → ds[i]? = some d → ∃ v, vs[i]? = some v ∧ RepV K H d v
  | [], _, _, _, _, q => by simp at q
  | d :: ds, _, 0, _, ⟨v, vr, e, r, rr⟩, q => by simp at q; subst q; subst e; exact ⟨v, by simp, r⟩
  | d :: ds, _, i + 1, x, ⟨v, vr, e, r, rr⟩, q => by
    obtain ⟨u, h1, h2⟩ := RepL.get (i := i) (d := x) rr (by simpa using q)
    subst e
    exact ⟨u, by simpa using h1, h2⟩
theorem RepL.append : ∀ {ds es : List D} {vs us : List V}, RepL K H ds vs → RepL K H es us → RepL K H (ds ++ es) (vs ++ us)
  | [], _, _, _, e, q => by cases e; exact q
  | d :: ds, _, _, _, ⟨v, vr, e, r, rr⟩, q => by subst e; exact ⟨v, _, rfl, r, RepL.append rr q⟩
theorem RepL.take : ∀ {ds : List D} {vs : List V} (n : Nat), RepL K H ds vs → RepL K H (ds.take n) (vs.take n)
  | _, _, 0, _ => by simp [RepL]
  | [], _, n + 1, e => by cases e; simp [RepL]
  | d :: ds, _, n + 1, ⟨v, vr, e, r, rr⟩ => by subst e; exact ⟨v, _, rfl, r, RepL.take n rr⟩
theorem RepL.drop : ∀ {ds : List D} {vs : List V} (n : Nat), RepL K H ds vs → RepL K H (ds.drop n) (vs.drop n)
  | _, _, 0, r => by simpa using r
  | [], _, n + 1, e => by cases e; simp [RepL]
  | d :: ds, _, n + 1, ⟨v, vr, e, r, rr⟩ => by subst e; exact RepL.drop n rr
theorem RepL.cut {ds : List D} {vs : List V} (r : RepL K H ds vs) (lo hi : Option Int) : RepL K H (cutI ds lo hi) (cutV vs lo hi) := by
  unfold cutI cutV
  rw [r.length]
  exact (r.drop _).take _
theorem RepL.set : ∀ {ds : List D} {vs : List V} (n : Nat) {d : D} {v : V}, RepL K H ds vs → RepV K H d v → RepL K H (ds.set n d) (vs.set n v)
  | [], _, _, _, _, e, _ => by cases e; simp [RepL]
  | d :: ds, _, 0, _, _, ⟨v, vr, e, r, rr⟩, q => by subst e; exact ⟨_, _, rfl, q, rr⟩
  | d :: ds, _, n + 1, _, _, ⟨v, vr, e, r, rr⟩, q => by subst e; exact ⟨_, _, rfl, r, RepL.set n rr q⟩
theorem RepL.eraseIdx : ∀ {ds : List D} {vs : List V} (n : Nat), RepL K H ds vs → RepL K H (ds.eraseIdx n) (vs.eraseIdx n)
  | [], _, _, e => by cases e; simp [RepL]
  | d :: ds, _, 0, ⟨v, vr, e, r, rr⟩ => by subst e; exact rr
  | d :: ds, _, n + 1, ⟨v, vr, e, r, rr⟩ => by subst e; exact ⟨_, _, rfl, r, RepL.eraseIdx n rr⟩
theorem RepL.dropLast {ds : List D} {vs : List V} (r : RepL K H ds vs) : RepL K H ds.dropLast vs.dropLast := by
  rw [List.dropLast_eq_take, List.dropLast_eq_take, r.length]
  exact r.take _
theorem RepL.rep {ds : List D} {vs : List V} (r : RepL K H ds vs) : ∀ n, RepL K H (repD ds n) ((List.replicate n vs).flatten)
  | 0 => by simp [repD, RepL]
  | n + 1 => by
    have := RepL.append r (RepL.rep r n)
    simpa [repD, List.replicate_succ] using this
theorem RepL.ints : ∀ {ns : List Int} {vs : List V}, RepL K H (ns.map D.int) vs → vs = ns.map V.int
  | [], _, e => e
  | n :: ns, _, ⟨v, vr, e, r, rr⟩ => by subst e; cases r; rw [RepL.ints rr]; rfl
theorem RepL.ofInts : ∀ (ns : List Int), RepL K H (ns.map D.int) (ns.map V.int)
  | [] => rfl
  | n :: ns => ⟨_, _, rfl, rfl, RepL.ofInts ns⟩
theorem RepL.bls : ∀ {ns : List Bool} {vs : List V}, RepL K H (ns.map D.bl) vs → vs = ns.map V.bl
  | [], _, e => e
  | n :: ns, _, ⟨v, vr, e, r, rr⟩ => by subst e; cases r; rw [RepL.bls rr]; rfl

/-! ### heaps that grow -/
def seqish : HO → Bool
  | .tup _ => true
  | .frz _ (.dK _) => false
  | .frz _ (.ext _) => false
  | .frz _ _ => true
  | _ => false
theorem tupS_upd {a : Addr} {h : HO} (q : ∀ o, H a = some o → seqish o = false) : TupS K H (upd H a h) := by
  intro t vs hs
  rcases hs with (hs | ⟨o, hs⟩) | hs
  · refine .inl (.inl ?_)
    rw [upd_ne]
    · exact hs
    · rintro rfl
      have := q _ hs
      simp [seqish] at this
  · refine .inl (.inr ⟨o, ?_⟩)
    rw [upd_ne]
    · exact hs
    · rintro rfl
      have := q _ hs
      simp [seqish] at this
  · exact .inr hs
theorem tupS_new {a : Addr} {h : HO} (q : H a = none) : TupS K H (upd H a h) := tupS_upd fun o e => by rw [q] at e; cases e
theorem RelO.keep {a : Addr} {o : O} (h : TupS K H H') (e : H' a = H a) (r : RelO K cx H a o) : RelO K cx H' a o := by
  cases o with
  | lst ds => obtain ⟨vs, q, r⟩ := r; exact ⟨vs, e.trans q, r.keep h⟩
  | dic kvs => obtain ⟨ks, q, r⟩ := r; exact ⟨ks, e.trans q, r.keep h⟩
  | fdc kvs z => obtain ⟨q, o, ks, e1, r⟩ := r; exact ⟨e.trans q, o, ks, e1, r.keep h⟩
  | dn kvs => obtain ⟨xs, q, r⟩ := r; exact ⟨xs, e.trans q, r.keep h⟩
  | fdn kvs z xs => obtain ⟨q, o, e1, r⟩ := r; exact ⟨e.trans q, o, e1, r.keep h⟩
  | ins c fs => obtain ⟨dx, fv, q, l1, l2, r⟩ := r; exact ⟨dx, fv, e.trans q, l1, l2, r.keep h⟩
theorem RelO.some {a : Addr} {o : O} (r : RelO K cx H a o) : ∃ h, H a = .some h ∧ seqish h = false := by
  cases o with
  | lst ds => obtain ⟨vs, q, r⟩ := r; exact ⟨_, q, rfl⟩
  | dic kvs => obtain ⟨ks, q, r⟩ := r; exact ⟨_, q, rfl⟩
  | fdc kvs z => obtain ⟨q, o, ks, e1, r⟩ := r; subst e1; exact ⟨_, q, rfl⟩
  | dn kvs => obtain ⟨xs, q, r⟩ := r; exact ⟨_, q, rfl⟩
  | fdn kvs z xs => obtain ⟨q, o, e1, r⟩ := r; subst e1; exact ⟨_, q, rfl⟩
  | ins c fs => obtain ⟨dx, fv, q, l1, l2, r⟩ := r; exact ⟨_, q, rfl⟩
theorem Rel.free (r : Rel K cx S H) {a : Addr} (e : H a = none) : S a = none := by
  cases q : S a with
  | none => rfl
  | some o =>
    obtain ⟨h, z, _⟩ := (r a o q).some
    rw [e] at z; cases z
/-- an untracked place is written -/
theorem Rel.upd0 (r : Rel K cx S H) {a : Addr} {h : HO} (n : S a = none) (t : TupS K H (upd H a h)) : Rel K cx S (upd H a h) := fun b o e =>
  RelO.keep t (upd_ne fun z => by subst z; rw [n] at e; cases e) (r b o e)
theorem Rel.upd1 (r : Rel K cx S H) {a : Addr} {h : HO} {o : O} (t : TupS K H (upd H a h)) (q : RelO K cx (upd H a h) a o) : Rel K cx (su S a o) (upd H a h) := fun b u e => by
  by_cases z : b = a
  · subst z; rw [su_same] at e; cases e; exact q
  · rw [su_ne z] at e
    exact RelO.keep t (upd_ne z) (r b u e)
/-- what nobody holds comes to stand in the heap of data -/
theorem Rel.box (r : Rel K cx S H) {a : Addr} {o : O} (q : RelO K cx H a o) : Rel K cx (su S a o) H := fun b u e => by
  by_cases z : b = a
  · subst z; rw [su_same] at e; cases e; exact q
  · rw [su_ne z] at e
    exact r b u e
theorem Keep.new {a : Addr} {h : HO} (n : H a = none) : Keep S S H (upd H a h) :=
  ⟨fun b o e z => ⟨by rw [upd_ne (ne_of_none e n)]; exact e, z⟩, fun b e => by
    by_cases z : b = a
    · subst z; exact n
    · rw [upd_ne z] at e; exact e⟩
/-- the tuples stand behind a step -/
theorem Keep.tups (k : Keep S S' H H') (r : Rel K cx S H) : TupS K H H' := by
  intro t vs hs
  have key : ∀ o, H t = .some o → seqish o = true → H' t = .some o := fun o e q => by
    refine (k.kp t o e ?_).1
    cases z : S t with
    | none => rfl
    | some u =>
      obtain ⟨h, h1, h2⟩ := (r t u z).some
      rw [e] at h1; cases h1
      rw [q] at h2; cases h2
  rcases hs with (hs | ⟨o, hs⟩) | hs
  · exact .inl (.inl (key _ hs rfl))
  · exact .inl (.inr ⟨o, key _ hs rfl⟩)
  · exact .inr hs
theorem Keep.sql (k : Keep S S' H H') {a : Addr} {vs : List V} (n : S a = none) (h : SqL K H a vs) : SqL K H' a vs := by
  rcases h with (h | ⟨o, h⟩) | h
  · exact .inl (.inl (k.kp _ _ h n).1)
  · exact .inl (.inr ⟨o, (k.kp _ _ h n).1⟩)
  · exact .inr h
theorem sqL_none {a : Addr} {vs : List V} (h : SqL K (fun _ => none) a vs) : SqL K H a vs := by
  rcases h with (h | ⟨o, h⟩) | h
  · cases h
  · cases h
  · exact .inr h
theorem fz_sql {a : Addr} {vs : List V} {S : Hs} (h : (∃ o, H a = some (.frz o (.lst vs)) ∧ S a = none) ∨ SqL K (fun _ => none) a vs) : SqL K H a vs := by
  rcases h with ⟨o, h, _⟩ | h
  · exact .inl (.inr ⟨o, h⟩)
  · exact sqL_none h
end
end DL

/-! DL2b: tuple * int, any small int. -/
namespace DL
open PySem L2 PySem.Spec PyProof.Rows
theorem tmul_same (l : Addr) (items : Array Value) (n : Nat) (dd : Option Addr) (sl : Array (Option Value)) (x : Int) (u : Tok) (c0 : (decide (x < -(2 ^ 63)) || decide (x ≥ 2 ^ 63)) = false) (c1 : (items.isEmpty || x == 1) = true) :
    Meets (Builtin.«tuple.__mul__» ⟨[.ref l, .int x u], []⟩) (fun _ R s => s.heap.get? l = some { cls := .type "tuple", dict := dd, data := .seq items n, slots := sl } ∧ R (.ok (.ret (Value.ref l))) s) :=
  .of_wp fun prog w A R s h => by
    obtain ⟨hp, g, d, tk, os⟩ := s
    obtain ⟨hl, h⟩ := h
    have f1 := AutoSeq1.idx_int
    wp_walk using wpAny_loadPart' hl
    repeat (first
      | (refine wpAny_ite_false (decide_eq_false (by rw [c0]; exact Bool.false_ne_true)) ?_; wp_walk using wpAny_loadPart' hl)
      | (refine wpAny_ite_true (decide_eq_true c1) ?_; wp_walk using wpAny_loadPart' hl))
    exact ⟨_, rfl, h⟩
theorem tmul_none (l : Addr) (items : Array Value) (n : Nat) (dd : Option Addr) (sl : Array (Option Value)) (x : Int) (u : Tok) (c0 : (decide (x < -(2 ^ 63)) || decide (x ≥ 2 ^ 63)) = false) (c1 : (items.isEmpty || x == 1) = false) (c2 : (decide (x ≤ 0) || items.isEmpty) = true) :
    Meets (Builtin.«tuple.__mul__» ⟨[.ref l, .int x u], []⟩) (fun _ R s => s.heap.get? l = some { cls := .type "tuple", dict := dd, data := .seq items n, slots := sl } ∧
      R (.ok (.ret (Value.ref s.heap.objs.size))) { s with heap := s.heap.push { cls := Value.type "tuple", data := Data.seq #[] }, toks := s.toks }) :=
  .of_wp fun prog w A R s h => by
    obtain ⟨hp, g, d, tk, os⟩ := s
    obtain ⟨hl, h⟩ := h
    have f1 := AutoSeq1.idx_int
    wp_walk using wpAny_loadPart' hl
    repeat (first
      | (refine wpAny_ite_false (decide_eq_false (by rw [c0]; exact Bool.false_ne_true)) ?_; wp_walk using wpAny_loadPart' hl)
      | (refine wpAny_ite_false (decide_eq_false (by rw [c1]; exact Bool.false_ne_true)) ?_; wp_walk using wpAny_loadPart' hl)
      | (refine wpAny_ite_true (decide_eq_true c2) ?_; wp_walk using wpAny_loadPart' hl))
    exact ⟨_, rfl, h⟩
def rRepS (K : Frag) : R2 := fun x y H Q => ∃ l k xs, x = .ref l ∧ y = .int k ∧ SqT K H l xs ∧ (xs = [] ∨ k = 1) ∧ -(2 ^ 62) < k ∧ k ≤ 1000 ∧ Q (.ref l) H
def rRepZ (K : Frag) : R2 := fun x y H Q => ∃ l k xs, x = .ref l ∧ y = .int k ∧ SqT K H l xs ∧ xs ≠ [] ∧ -(2 ^ 62) < k ∧ k ≤ 0 ∧ ∀ p, H p = none → Q (.ref p) (upd H p (.tup []))
section
variable {X : Cx}
theorem op_repS : OpR X (binaryOp .Mult) (rRepS X.K) := by
  intro pins s σ H x y v u Q I rx ry h
  obtain ⟨l, k, xs, rfl, rfl, hT, hk, h1, h2, q⟩ := h
  cases rx
  obtain ⟨t, rfl⟩ := ry
  obtain ⟨its, r, ⟨⟨cls, dd, data, sl⟩, ho, hc, n, hd⟩, hs⟩ := I.tuple hT
  simp only at hc hd
  subst hc hd
  have c0 : (decide (k < -(2 ^ 63)) || decide (k ≥ 2 ^ 63)) = false := by
    rw [decide_eq_false (by omega), decide_eq_false (by omega)] <;> rfl
  have c1 : (its.toArray.isEmpty || k == 1) = true := by
    rcases hk with rfl | rfl
    · cases r; rfl
    · rw [Bool.or_eq_true]; exact .inr rfl
  exact wpAny_binaryOp_repeat_ref (T := "tuple") (U := "int") (by decide) ⟨_, ho, rfl⟩ (fun s' => typeIs_int s' k t) noFill_tuple_mul F.fills_int_mul F.slot_int_rmul repeat_tuple F.slot_int_index.lookup
    (call_meets F.slot_int_rmul (typeIs_int s k t) F.entry_int_rmul (F.args_int_rmul_2 _ _) (int_rmul_tuple k t l its.toArray n dd sl)
      ⟨ho, rfl, ⟨_, ho, rfl⟩, call_meets F.slot_tuple_mul ⟨_, ho, rfl⟩ F.entry_tuple_mul (F.args_tuple_mul_2 _ _) (tmul_same l its.toArray n dd sl k t c0 c1) ⟨ho, ⟨.ref l, H, I, rfl, q⟩⟩⟩)
theorem op_repZ : OpR X (binaryOp .Mult) (rRepZ X.K) := by
  intro pins s σ H x y v u Q I rx ry h
  obtain ⟨l, k, xs, rfl, rfl, hT, hne, h1, h2, q⟩ := h
  cases rx
  obtain ⟨t, rfl⟩ := ry
  obtain ⟨its, r, ⟨⟨cls, dd, data, sl⟩, ho, hc, n, hd⟩, hs⟩ := I.tuple hT
  simp only at hc hd
  subst hc hd
  have hn : its ≠ [] := fun e => hne (by subst e; cases r; rfl)
  have hi : its.toArray.isEmpty = false := by
    cases its with
    | nil => exact absurd rfl hn
    | cons a b => rfl
  have c0 : (decide (k < -(2 ^ 63)) || decide (k ≥ 2 ^ 63)) = false := by
    rw [decide_eq_false (by omega), decide_eq_false (by omega)] <;> rfl
  have c1 : (its.toArray.isEmpty || k == 1) = false := by
    rw [hi, Bool.false_or]
    exact beq_eq_false_iff_ne.mpr (by omega)
  have c2 : (decide (k ≤ 0) || its.toArray.isEmpty) = true := by
    rw [Bool.or_eq_true]; exact .inl (decide_eq_true h2)
  refine wpAny_binaryOp_repeat_ref (T := "tuple") (U := "int") (by decide) ⟨_, ho, rfl⟩ (fun s' => typeIs_int s' k t) noFill_tuple_mul F.fills_int_mul F.slot_int_rmul repeat_tuple F.slot_int_index.lookup
    (call_meets F.slot_int_rmul (typeIs_int s k t) F.entry_int_rmul (F.args_int_rmul_2 _ _) (int_rmul_tuple k t l its.toArray n dd sl)
      ⟨ho, rfl, ⟨_, ho, rfl⟩, call_meets F.slot_tuple_mul ⟨_, ho, rfl⟩ F.entry_tuple_mul (F.args_tuple_mul_2 _ _) (tmul_none l its.toArray n dd sl k t c0 c1 c2) ⟨ho, ?_⟩⟩)
  refine ⟨.ref s.heap.objs.size, _, I.laid (t' := s.toks) (o := .tup []) (fun b ob q => Heap.get?_push_of_some _ q) (Nat.le_refl _) ?_, rfl, q _ (I.hok.fresh (Nat.le_refl _))⟩
  exact ⟨Nat.zero_le _, [], .nil, IsTup.new _ _⟩
end
end DL

/-! DL3: the operators are sound. -/
namespace DL
open PySem L2 PySem.Spec PyProof.Rows
def KVof (K : Frag) (cx : Cls2) (S : Hs) (H : Hp) (Q : VK) : VK2 := fun z S' => ∀ v H', Rel K cx S' H' → Keep S S' H H' → RepR K H H' S' z v → Q v H'
def r1of (K : Frag) (cx : Cls2) (f : Vx → Hs → VK2 → Prop) : V → Hp → VK → Prop := fun x H Q => ∃ S a, Rel K cx S H ∧ RepX K H S a x ∧ f a S (KVof K cx S H Q)
def r2of (K : Frag) (cx : Cls2) (f : Vx → Vx → Hs → VK2 → Prop) : R2 := fun x y H Q => ∃ S a b, Rel K cx S H ∧ RepX K H S a x ∧ RepX K H S b y ∧ f a b S (KVof K cx S H Q)
section
variable {K : Frag} {cx : Cls2} {S S' : Hs} {H H' H0 : Hp} {Q : VK}
theorem fin {z : Vx} {v : V} (k : KVof K cx S H Q z S) (hr : Rel K cx S H) (r : RepX K H S z v) (n : own z = false) : Q v H := k v H hr .refl ⟨r, fun e => by rw [n] at e; cases e⟩
theorem fin_d {x : D} {v : V} (k : KVof K cx S H Q (.d x) S) (hr : Rel K cx S H) (r : RepV K H x v) : Q v H := fin k hr r rfl
theorem fin_bl {b : Bool} (k : KVof K cx S H Q (.d (.bl b)) S) (hr : Rel K cx S H) : Q (.bl b) H := fin_d k hr rfl
theorem fin_int {i : Int} (k : KVof K cx S H Q (.d (.int i)) S) (hr : Rel K cx S H) : Q (.int i) H := fin_d k hr rfl
theorem fin_tup {ds : List D} {vs : List V} (k : KVof K cx S H Q (.d (.tup ds)) S) (hr : Rel K cx S H) (r : RepL K H ds vs) (p : Addr) (n : H p = none) : Q (.ref p) (upd H p (.tup vs)) :=
  k _ _ (hr.upd0 (hr.free n) (tupS_new n)) (.new n) ⟨⟨p, vs, rfl, SqT.of upd_same, r.keep (tupS_new n)⟩, fun e => by cases e⟩
theorem fin_vl {ds : List D} {vs : List V} (k : KVof K cx S H Q (.vl ds) S) (hr : Rel K cx S H) (r : RepL K H ds vs) (p : Addr) (n : H p = none) : Q (.ref p) (upd H p (.lst vs)) :=
  k _ _ (hr.upd0 (hr.free n) (tupS_new n)) (.new n) ⟨⟨p, vs, rfl, upd_same, hr.free n, r.keep (tupS_new n)⟩, fun _ => ⟨p, rfl, n⟩⟩
/-- a container as it stands -/
def CnR (K : Frag) (cx : Cls2) (H : Hp) : Cn → V → Prop
  | .l ds, v => ∃ a vs, v = .ref a ∧ H a = some (.lst vs) ∧ RepL K H ds vs
  | .f ds, v => ∃ a vs, v = .ref a ∧ SqL K H a vs ∧ RepL K H ds vs
  | .t ds, v => ∃ a vs, v = .ref a ∧ SqT K H a vs ∧ RepL K H ds vs
  | .s cs, v => v = .str (sv cs)
  | .k kvs, v => ∃ a ks, v = .ref a ∧ H a = some (.dK ks) ∧ DicR K H kvs ks
  | .kn kvs, v => ∃ a xs, v = .ref a ∧ H a = some (dnO cx.w a xs) ∧ DnOk K H a kvs xs
  | .kfn kvs, v => ∃ a xs o, v = .ref a ∧ H a = some (.frz o (dnO cx.w a xs)) ∧ DnOk K H a kvs xs
  | .kf kvs, v => ∃ a ks o, v = .ref a ∧ H a = some (.frz o (.dK ks)) ∧ DicR K H kvs ks
  | .i c fs, v => ∃ a, v = .ref a ∧ RelO K cx H a (.ins c fs)
  | .e _, _ => False
theorem view_of {x : Vx} {v : V} {P : Cn → Prop} (hr : Rel K cx S H) (r : RepX K H S x v) (w : view x S P) : ∃ c, P c ∧ CnR K cx H c v := by
  cases x with
  | d y =>
    cases y with
    | ref a =>
      obtain ⟨o, e, q⟩ := w
      refine ⟨_, q, ?_⟩
      cases r
      have z := hr a o e
      cases o with
      | lst ds => obtain ⟨vs, h, r⟩ := z; exact ⟨a, vs, rfl, h, r⟩
      | dic kvs => obtain ⟨ks, h, r⟩ := z; exact ⟨a, ks, rfl, h, r⟩
      | fdc kvs y => obtain ⟨h, o, ks, e1, r⟩ := z; subst e1; exact ⟨a, ks, o, rfl, h, r⟩
      | dn kvs => obtain ⟨xs, h, r⟩ := z; exact ⟨a, xs, rfl, h, r⟩
      | fdn kvs y xs => obtain ⟨h, o, e1, r⟩ := z; subst e1; exact ⟨a, xs, o, rfl, h, r⟩
      | ins c fs => exact ⟨a, rfl, z⟩
    | str s => exact ⟨_, w, r⟩
    | tup ds => exact ⟨_, w, r⟩
    | non => exact w.elim
    | bl b => exact w.elim
    | int i => exact w.elim
  | vl ds => obtain ⟨a, vs, rfl, h, n, r⟩ := r; exact ⟨_, w, a, vs, rfl, h, r⟩
  | fz ds => obtain ⟨a, vs, rfl, h, r⟩ := r; exact ⟨_, w, a, vs, rfl, fz_sql h, r⟩
  | bw ds => obtain ⟨a, vs, rfl, h, n, r⟩ := r; exact ⟨_, w, a, vs, rfl, h, r⟩
  | vd ds => obtain ⟨a, vs, rfl, h, n, r⟩ := r; exact ⟨_, w, a, vs, rfl, h, r⟩
  | bd ds => obtain ⟨a, vs, rfl, h, n, r⟩ := r; exact ⟨_, w, a, vs, rfl, h, r⟩
  | st ds => exact r.elim
end

/-! ### + - * // % ** -/
section
variable {X : Cx} {cx : Cls2}
theorem rI_elim {C : Int → Int → Prop} {g : Int → Int → V} {f : Int → Int → VK2 → Hs → Prop} {gd : Int → Int → D} (hg : ∀ i j H, RepV X.K H (gd i j) (g i j)) (hf : ∀ i j Q S, f i j Q S → C i j ∧ Q (.d (gd i j)) S) {x y : V} {H : Hp} {Q : VK}
    (w : r2of X.K cx (intD f) x y H Q) : rI C g x y H Q := by
  obtain ⟨S, a, b, hr, ra, rb, w⟩ := w
  unfold intD at w
  split at w
  · cases ra
    cases rb
    obtain ⟨h1, h2⟩ := hf _ _ _ _ w
    exact ⟨_, _, rfl, rfl, h1, fin_d h2 hr (hg _ _ _)⟩
  · exact w.elim
theorem rI0_elim {g : Int → Int → V} {f : Int → Int → VK2 → Hs → Prop} {gd : Int → Int → D} (hg : ∀ i j H, RepV X.K H (gd i j) (g i j)) (hf : ∀ i j Q S, f i j Q S → Q (.d (gd i j)) S) {x y : V} {H : Hp} {Q : VK}
    (w : r2of X.K cx (intD f) x y H Q) : rI0 g x y H Q := by
  obtain ⟨i, j, h1, h2, _, h3⟩ := rI_elim (C := fun _ _ => True) hg (fun i j Q S h => ⟨trivial, hf i j Q S h⟩) w
  exact ⟨i, j, h1, h2, h3⟩
theorem opImp {f : Value → Value → Sem Value} {r r' : R2} (h : OpR X f r) (i : ∀ x y H Q, r' x y H Q → r x y H Q) : OpR X f r' := fun pins s σ H x y v u Q I rx ry w => h pins s σ H x y v u Q I rx ry (i _ _ _ _ w)
theorem op2_sub : OpR X (binaryOp .Sub) (r2of X.K cx (op2D .sub)) := opImp op_sub fun x y H Q w => rI0_elim (gd := fun i j => .int (i - j)) (fun _ _ _ => rfl) (fun _ _ _ _ h => h) w
theorem op2_mod : OpR X (binaryOp .Mod) (r2of X.K cx (op2D .mod)) := opImp op_mod fun x y H Q w => rI_elim (gd := fun i j => .int (i % j)) (fun _ _ _ => rfl) (fun _ _ _ _ h => h) w
theorem op2_fdiv : OpR X (binaryOp .FloorDiv) (r2of X.K cx (op2D .fdiv)) := opImp op_fdivW fun x y H Q w => rI_elim (gd := fun i j => .int (i / j)) (fun _ _ _ => rfl) (fun _ _ _ _ h => h) w
theorem op2_pow : OpR X (binaryOp .Pow) (r2of X.K cx (op2D .pow)) := opImp op_pow fun x y H Q w => rI_elim (gd := fun i j => .int (i ^ j.toNat)) (fun _ _ _ => rfl) (fun _ _ _ _ h => h) w
theorem op2_lt : OpR X (compareOp .Lt) (r2of X.K cx (op2D .lt)) := opImp op_lt fun x y H Q w => rI0_elim (gd := fun i j => .bl (decide (i < j))) (fun _ _ _ => rfl) (fun _ _ _ _ h => h) w
theorem op2_le : OpR X (compareOp .LtE) (r2of X.K cx (op2D .le)) := opImp op_le fun x y H Q w => rI0_elim (gd := fun i j => .bl (decide (i ≤ j))) (fun _ _ _ => rfl) (fun _ _ _ _ h => h) w
theorem op2_gt : OpR X (compareOp .Gt) (r2of X.K cx (op2D .gt)) := opImp op_gt fun x y H Q w => rI0_elim (gd := fun i j => .bl (decide (j < i))) (fun _ _ _ => rfl) (fun _ _ _ _ h => h) w
theorem op2_ge : OpR X (compareOp .GtE) (r2of X.K cx (op2D .ge)) := opImp op_ge fun x y H Q w => rI0_elim (gd := fun i j => .bl (decide (j ≤ i))) (fun _ _ _ => rfl) (fun _ _ _ _ h => h) w
theorem sv_append (a b : List Nat) : sv a ++ sv b = sv (a ++ b) := by
  show (⟨a.toArray ++ b.toArray⟩ : Str) = ⟨(a ++ b).toArray⟩
  simp
theorem sv_length (a : List Nat) : (sv a).length = a.length := by
  show a.toArray.size = a.length
  simp
theorem op2_add : OpR X (binaryOp .Add) (r2of X.K cx (op2D .add)) := by
  intro pins s σ H x y v u Q I rx ry w
  obtain ⟨S, a, b, hr, ra, rb, w⟩ := w
  have w : addD a b S (KVof X.K cx S H Q) := w
  unfold addD at w
  split at w
  · cases ra
    cases rb
    exact op_add pins s σ H _ _ v u Q I rx ry ⟨_, _, rfl, rfl, fin_int w hr⟩
  · cases ra
    cases rb
    refine op_add_str pins s σ H _ _ v u Q I rx ry ⟨_, _, rfl, rfl, by rw [sv_length, sv_length]; exact w.1, ?_⟩
    rw [sv_append]
    exact fin_d w.2 hr rfl
  · rename_i S as bs Q'
    obtain ⟨p, vs, rfl, hp, r1⟩ := ra
    obtain ⟨q, us, rfl, hq, r2⟩ := rb
    refine op_catA pins s σ H _ _ v u Q I rx ry ⟨p, q, vs, us, rfl, rfl, hp, hq, by rw [← r1.length, ← r2.length]; exact w.1, fun e => ?_, fun _ e => ?_, fun _ _ => fin_tup w.2 hr (r1.append r2)⟩
    · subst e
      have h := r1.length
      have h0 : as = [] := List.length_eq_zero_iff.mp h
      subst h0
      exact fin_d w.2 hr ⟨q, us, rfl, hq, r2⟩
    · subst e
      have h := r2.length
      have h0 : bs = [] := List.length_eq_zero_iff.mp h
      subst h0
      refine fin_d w.2 hr ⟨p, vs, rfl, hp, ?_⟩
      rw [List.append_nil]
      exact r1
  · obtain ⟨c, w, hc⟩ := view_of hr ra w
    obtain ⟨c', w, hc'⟩ := view_of hr rb w
    cases c <;> cases c' <;> first | exact w.elim | skip
    obtain ⟨p, vs, rfl, hp, r1⟩ := hc
    obtain ⟨q, us, rfl, hq, r2⟩ := hc'
    exact op_cat pins s σ H _ _ v u Q I rx ry ⟨p, q, vs, us, rfl, rfl, hp, hq, by rw [← r1.length, ← r2.length]; exact w.1, fin_vl w.2 hr (r1.append r2)⟩
theorem op2_mul : OpR X (binaryOp .Mult) (r2of X.K cx (op2D .mul)) := by
  intro pins s σ H x y v u Q I rx ry w
  obtain ⟨S, a, b, hr, ra, rb, w⟩ := w
  have w : mulD a b S (KVof X.K cx S H Q) := w
  unfold mulD at w
  split at w
  · cases ra
    cases rb
    rcases w.1 with h | h
    · exact op_mul pins s σ H _ _ v u Q I rx ry ⟨_, _, rfl, rfl, h, fin_int w.2 hr⟩
    · exact op_mulW pins s σ H _ _ v u Q I rx ry ⟨_, _, rfl, rfl, h, fin_int w.2 hr⟩
  · obtain ⟨p, vs, rfl, hp, r1⟩ := ra
    cases rb
    obtain ⟨h1, w⟩ := w
    rename_i _ ds k _
    have two : k = 1 ∨ k ≤ 0 ∨ 2 ≤ k := by omega
    have emp : vs = [] → ds = [] := fun e => List.length_eq_zero_iff.mp (by rw [r1.length, e]; rfl)
    by_cases e0 : vs = []
    · have e1 := emp e0
      subst e1
      have er : repD ([] : List DL.D) k.toNat = [] := by unfold repD; simp
      rw [er] at w
      exact op_repS pins s σ H _ _ v u Q I rx ry ⟨p, _, vs, rfl, rfl, hp, .inl e0, h1.1, h1.2.1, w _ _ hr .refl ⟨⟨p, vs, rfl, hp, r1⟩, fun e => by cases e⟩⟩
    · rcases two with rfl | hz | h2
      · have er : repD ds (1 : Int).toNat = ds := by unfold repD; simp
        rw [er] at w
        exact op_repS pins s σ H _ _ v u Q I rx ry ⟨p, _, vs, rfl, rfl, hp, .inr rfl, h1.1, h1.2.1, w _ _ hr .refl ⟨⟨p, vs, rfl, hp, r1⟩, fun e => by cases e⟩⟩
      · have er : repD ds k.toNat = [] := by
          have : k.toNat = 0 := by omega
          unfold repD; rw [this]; simp
        rw [er] at w
        exact op_repZ pins s σ H _ _ v u Q I rx ry ⟨p, _, vs, rfl, rfl, hp, e0, h1.1, hz, fin_tup w hr rfl⟩
      · exact op_repT pins s σ H _ _ v u Q I rx ry ⟨p, _, vs, rfl, rfl, hp, e0, h2, h1.2.1, by rw [← r1.length]; exact h1.2.2, fin_tup w hr (r1.rep _)⟩
  · obtain ⟨h1, w⟩ := w
    obtain ⟨c, w, hc⟩ := view_of hr ra w
    cases c <;> first | exact w.elim | skip
    cases rb
    obtain ⟨p, vs, rfl, hp, r1⟩ := hc
    exact op_rep pins s σ H _ _ v u Q I rx ry ⟨p, _, vs, rfl, rfl, hp, by omega, by have := w.1; omega, by rw [← r1.length]; exact w.2.1, fin_vl w.2.2 hr (r1.rep _)⟩
  · exact w.elim
end

/-! ### equality -/
mutual
def toP : D → PyData
  | .non => .none
  | .bl b => .bool b
  | .int i => .int i
  | .str s => .str (sv s)
  | .ref _ => .none
  | .tup ds => .tuple (toPs ds)
def toPs : List D → List PyData
  | [] => []
  | d :: ds => toP d :: toPs ds
end
theorem sv_inj {a b : List Nat} : (sv a == sv b) = decide (a = b) := by
  by_cases h : a = b
  · subst h; simp
  · have h' : ¬ sv a = sv b := fun e => h (by have := congrArg (fun z : Str => z.cps.toList) e; simpa using this)
    rw [decide_eq_false h]
    exact beq_eq_false_iff_ne.mpr h'
mutual
theorem eqB_eqv : ∀ (a b : D) (n m : Nat), pl n a = true → pl m b = true → eqB a b = PyData.eqv (toP a) (toP b)
  | .non, b, _, _, _, h => by cases b <;> first | rfl | (simp [pl] at h)
  | .bl x, b, _, _, _, h => by
    cases b <;> first | rfl | (simp [pl] at h; done)
  | .int i, b, _, _, _, h => by
    cases b <;> first | rfl | (simp [pl] at h; done)
  | .str x, b, _, _, _, h => by
    cases b <;> first | rfl | (simp [pl] at h; done) | skip
    show decide _ = (sv x == sv _)
    rw [sv_inj]
  | .ref a, _, _, _, h, _ => by simp [pl] at h
  | .tup ds, b, n, m, h, h' => by
    cases b <;> first | rfl | (simp [pl] at h'; done) | skip
    cases n with
    | zero => simp [pl] at h
    | succ n =>
      cases m with
      | zero => simp [pl] at h'
      | succ m =>
        show eqBs _ _ = PyData.eqvAll _ _
        exact eqBs_eqv ds _ n m (by simpa [pl] using h) (by simpa [pl] using h')
theorem eqBs_eqv : ∀ (a b : List D) (n m : Nat), pls n a = true → pls m b = true → eqBs a b = PyData.eqvAll (toPs a) (toPs b)
  | [], [], _, _, _, _ => rfl
  | [], _ :: _, _, _, _, _ => rfl
  | _ :: _, [], _, _, _, _ => rfl
  | x :: xs, y :: ys, n, m, h, h' => by
    simp only [pls, Bool.and_eq_true] at h h'
    show (eqB x y && eqBs xs ys) = (PyData.eqv (toP x) (toP y) && PyData.eqvAll (toPs xs) (toPs ys))
    rw [eqB_eqv x y n m h.1 h'.1, eqBs_eqv xs ys n m h.2 h'.2]
end
mutual
theorem pl_lay : ∀ (n : Nat) (a : D), pl n a = true → (toP a).canLay0 = true ∧ (toP a).depth ≤ n
  | n, .non, _ => ⟨rfl, Nat.zero_le _⟩
  | n, .bl _, _ => ⟨rfl, Nat.zero_le _⟩
  | n, .int _, _ => ⟨rfl, Nat.zero_le _⟩
  | n, .str s, h => by
    refine ⟨?_, Nat.zero_le _⟩
    have h : (s.all fun c => decide (c < 1114112)) = true := by simpa [pl] using h
    have e : (toP (.str s)).canLay0 = (s.toArray.all fun c => decide (c < 0x110000)) := rfl
    rw [e]
    simpa using h
  | n, .ref _, h => by simp [pl] at h
  | 0, .tup ds, h => by simp [pl] at h
  | n + 1, .tup ds, h => by
    obtain ⟨h1, h2⟩ := pls_lay n ds (by simpa [pl] using h)
    exact ⟨h1, Nat.succ_le_succ h2⟩
theorem pls_lay : ∀ (n : Nat) (a : List D), pls n a = true → PyData.canLayAll0 (toPs a) = true ∧ PyData.depthAll (toPs a) ≤ n
  | n, [], _ => ⟨rfl, Nat.zero_le _⟩
  | n, d :: ds, h => by
    simp only [pls, Bool.and_eq_true] at h
    obtain ⟨h1, h2⟩ := pl_lay n d h.1
    obtain ⟨h3, h4⟩ := pls_lay n ds h.2
    refine ⟨?_, ?_⟩
    · show ((toP d).canLay0 && PyData.canLayAll0 (toPs ds)) = true
      rw [h1, h3]; rfl
    · show max _ _ ≤ n
      omega
end
theorem pln_shaped {a : D} (h : pln a = true) : SeqAt.shaped (toP a) = true := by
  obtain ⟨h1, h2⟩ := pl_lay 60 a h
  unfold SeqAt.shaped
  rw [h1, decide_eq_true (by omega)]; rfl
theorem plns_shaped {a : List D} (h : plns a = true) : SeqAt.shaped (.list (toPs a)) = true := by
  obtain ⟨h1, h2⟩ := pls_lay 60 a h
  unfold SeqAt.shaped
  have e : (PyData.list (toPs a)).canLay0 = true := h1
  have e' : (PyData.list (toPs a)).depth = PyData.depthAll (toPs a) + 1 := rfl
  rw [e, e', decide_eq_true (by omega)]; rfl
mutual
theorem RepV.dp {K : Frag} {H : Hp} : ∀ (n : Nat) (d : D) (v : V), pl n d = true → RepV K H d v → Dp K H v (toP d)
  | _, .non, _, _, r => by cases r; exact .non
  | _, .bl b, _, _, r => by cases r; exact .bl b
  | _, .int b, _, _, r => by cases r; exact .int b
  | _, .str b, _, _, r => by cases r; exact .str _
  | _, .ref a, _, h, _ => by simp [pl] at h
  | 0, .tup ds, _, h, _ => by simp [pl] at h
  | n + 1, .tup ds, _, h, ⟨t, vs, e, q, r⟩ => by
    subst e
    exact .tup q (RepL.dp n ds vs (by simpa [pl] using h) r)
theorem RepL.dp {K : Frag} {H : Hp} : ∀ (n : Nat) (ds : List D) (vs : List V), pls n ds = true → RepL K H ds vs → DpAll K H vs (toPs ds)
  | _, [], _, _, r => by cases r; exact .nil
  | n, d :: ds, _, h, ⟨v, vr, e, r, rr⟩ => by
    subst e
    simp only [pls, Bool.and_eq_true] at h
    exact .cons (RepV.dp n d v h.1 r) (RepL.dp n ds vr h.2 rr)
end
section
variable {X : Cx} {cx : Cls2}
/-- two lists, the right one empty: by their lengths, whatever the left one holds -/
def rEE (K : Frag) (f : Bool → Bool) : R2 := fun x y H Q => ∃ p q vs, x = .ref p ∧ y = .ref q ∧ SqL K H p vs ∧ SqL K H q [] ∧ Q (.bl (f vs.isEmpty)) H
theorem op_eqE (hu : X.A.units + 64 < cLine) : OpR X (compareOp .Eq) (rEE X.K id) := by
  intro pins s σ H x y v u Q I rx ry h
  obtain ⟨p, q, vs, rfl, rfl, hp, hq, k⟩ := h
  cases rx
  cases ry
  obtain ⟨as, va, la, _⟩ := I.list hp
  obtain ⟨bs, vb, lb, _⟩ := I.list hq
  cases vb
  cases va with
  | nil => exact SeqAt.eq_listAt (e := fun _ => true) la.isList lb.isList rfl (by omega) (fun j h => absurd h (Nat.not_lt_zero _)) ⟨.bl _, H, I, rfl, k⟩
  | cons r rr => exact SeqAt.eq_list_lengthsAt la.isList lb.isList rfl (by omega) ⟨.bl _, H, I, rfl, k⟩
theorem op_neE (hu : X.A.units + 64 < cLine) : OpR X (compareOp .NotEq) (rEE X.K not) := by
  intro pins s σ H x y v u Q I rx ry h
  obtain ⟨p, q, vs, rfl, rfl, hp, hq, k⟩ := h
  cases rx
  cases ry
  obtain ⟨as, va, la, _⟩ := I.list hp
  obtain ⟨bs, vb, lb, _⟩ := I.list hq
  cases vb
  cases va with
  | nil => exact SeqAt.RcNeAt.lists (e := fun _ => true) la.isList lb.isList rfl (by omega) (fun j h => absurd h (Nat.not_lt_zero _)) _ _ _ _ ⟨.bl _, H, I, rfl, k⟩
  | cons r rr => exact SeqAt.RcNeAt.lists_lengths la.isList lb.isList rfl (by omega) _ _ _ _ ⟨.bl _, H, I, rfl, k⟩
/-- a dict and an empty one -/
def rEK (f : Bool → Bool) : R2 := fun x y H Q => ∃ p q ks, x = .ref p ∧ y = .ref q ∧ H p = some (.dK ks) ∧ H q = some (.dK []) ∧ Q (.bl (f ks.isEmpty)) H
theorem op_eqK (hu : X.A.units + 64 < cLine) : OpR X (compareOp .Eq) (rEK id) := by
  intro pins s σ H x y v u Q I rx ry h
  obtain ⟨a, b, ks, rfl, rfl, ea, eb, q⟩ := h
  obtain rfl : v = Value.ref a := rx
  obtain rfl : u = Value.ref b := ry
  obtain ⟨_, ya, va, ra, da⟩ := (show ObjOk X.prog X.w H s.heap a (.dK ks) from I.hok a _ ea)
  obtain ⟨_, yb, vb, rb, db⟩ := (show ObjOk X.prog X.w H s.heap b (.dK []) from I.hok b _ eb)
  have hb : vb = [] := by cases rb; rfl
  subst hb
  have hl : va.length = ks.length := ra.length.symm
  refine PySem.W.keq_eq (knd := mixKind X.prog X.w) (r := true) ya yb da db (by omega) (fun e => ?_) ?_
  · have : va = [] := List.length_eq_zero_iff.mp e
    subst this
    exact .nil
  · refine L2.fin_bl I q ?_
    cases ks <;> simp at hl <;> simp [hl]
theorem op_neK (hu : X.A.units + 64 < cLine) : OpR X (compareOp .NotEq) (rEK not) := by
  intro pins s σ H x y v u Q I rx ry h
  obtain ⟨a, b, ks, rfl, rfl, ea, eb, q⟩ := h
  obtain rfl : v = Value.ref a := rx
  obtain rfl : u = Value.ref b := ry
  obtain ⟨_, ya, va, ra, da⟩ := (show ObjOk X.prog X.w H s.heap a (.dK ks) from I.hok a _ ea)
  obtain ⟨_, yb, vb, rb, db⟩ := (show ObjOk X.prog X.w H s.heap b (.dK []) from I.hok b _ eb)
  have hb : vb = [] := by cases rb; rfl
  subst hb
  have hl : va.length = ks.length := ra.length.symm
  refine PySem.W.keq_ne (knd := mixKind X.prog X.w) (r := true) ya yb da db (by omega) (fun e => ?_) ?_
  · have : va = [] := List.length_eq_zero_iff.mp e
    subst this
    exact .nil
  · refine L2.fin_bl I q ?_
    cases ks <;> simp at hl <;> simp [hl]
theorem DicR.emp {K : Frag} {H : Hp} {kvs : List (D × D)} {ks : List (Key × V)} (r : DicR K H kvs ks) : ks.isEmpty = kvs.isEmpty := by cases r <;> rfl
theorem opOr {f : Value → Value → Sem Value} {r r' : R2} (h : OpR X f r) (h' : OpR X f r') : OpR X f (fun x y H Q => r x y H Q ∨ r' x y H Q) := fun pins s σ H x y v u Q I rx ry w =>
  w.elim (h pins s σ H x y v u Q I rx ry) (h' pins s σ H x y v u Q I rx ry)
theorem eqBs_nil (a : List D) : eqBs a [] = a.isEmpty := by cases a <;> rfl
theorem RepL.emp {K : Frag} {H : Hp} : ∀ {ds : List D} {vs : List V}, RepL K H ds vs → vs.isEmpty = ds.isEmpty
  | [], _, r => by cases r; rfl
  | _ :: _, _, ⟨_, _, e, _⟩ => by subst e; rfl
theorem eqD_rd {a b : Vx} {x y : V} {S : Hs} {H : Hp} {P : Bool → Prop} (hr : Rel X.K cx S H) (ra : RepX X.K H S a x) (rb : RepX X.K H S b y) (w : eqD a b S P) :
    (∃ d e, Dp X.K H x d ∧ Dp X.K H y e ∧ SeqAt.shaped d = true ∧ SeqAt.shaped e = true ∧ P (PyData.eqv d e)) ∨ (∃ p q vs, x = .ref p ∧ y = .ref q ∧ SqL X.K H p vs ∧ SqL X.K H q [] ∧ P vs.isEmpty) ∨ ∃ p q ks, x = .ref p ∧ y = .ref q ∧ H p = some (.dK ks) ∧ H q = some (.dK []) ∧ P ks.isEmpty := by
  have lists : (view a S fun c => view b S fun c' => eqC c c' P) → (∃ d e, Dp X.K H x d ∧ Dp X.K H y e ∧ SeqAt.shaped d = true ∧ SeqAt.shaped e = true ∧ P (PyData.eqv d e)) ∨ (∃ p q vs, x = .ref p ∧ y = .ref q ∧ SqL X.K H p vs ∧ SqL X.K H q [] ∧ P vs.isEmpty) ∨ ∃ p q ks, x = .ref p ∧ y = .ref q ∧ H p = some (.dK ks) ∧ H q = some (.dK []) ∧ P ks.isEmpty := fun w => by
    obtain ⟨c, w, hc⟩ := view_of hr ra w
    obtain ⟨c', w, hc'⟩ := view_of hr rb w
    cases c <;> cases c' <;> first | exact w.elim | skip
    rotate_left
    · obtain ⟨p, ks, rfl, hp, r1⟩ := hc
      obtain ⟨q, us, rfl, hq, r2⟩ := hc'
      obtain ⟨w1, w2⟩ := w
      subst w1
      cases r2
      exact .inr (.inr ⟨p, q, ks, rfl, rfl, hp, hq, by rw [DicR.emp r1]; exact w2⟩)
    obtain ⟨p, vs, rfl, hp, r1⟩ := hc
    obtain ⟨q, us, rfl, hq, r2⟩ := hc'
    obtain ⟨w1, w2⟩ := w
    rcases w1 with e | w1
    · subst e
      cases r2
      refine .inr (.inl ⟨p, q, vs, rfl, rfl, SqL.of hp, SqL.of hq, ?_⟩)
      rw [RepL.emp r1, ← eqBs_nil]
      exact w2
    refine .inl ⟨_, _, .lst (SqL.of hp) (RepL.dp 60 _ _ w1.1 r1), .lst (SqL.of hq) (RepL.dp 60 _ _ w1.2 r2), plns_shaped w1.1, plns_shaped w1.2, ?_⟩
    have e := eqBs_eqv _ _ 60 60 w1.1 w1.2
    show P (PyData.eqvAll _ _)
    rw [← e]
    exact w2
  unfold eqD at w
  split at w
  · exact lists w
  · exact w.elim
  · refine .inl ⟨_, _, RepV.dp 60 _ _ w.1 ra, RepV.dp 60 _ _ w.2.1 rb, pln_shaped w.1, pln_shaped w.2.1, ?_⟩
    rw [← eqB_eqv _ _ 60 60 w.1 w.2.1]
    exact w.2.2
  · exact lists w
mutual
theorem resP_dp {K : Frag} {cx : Cls2} {S : Hs} {H : Hp} (hr : Rel K cx S H) : ∀ (n : Nat) (d : D) (v : V) (p : PyData), resP S n d = some p → RepV K H d v → Dp K H v p
  | n, .non, v, p, e, r => by unfold resP at e; cases e; cases r; exact .non
  | n, .bl b, v, p, e, r => by unfold resP at e; cases e; cases r; exact .bl b
  | n, .int i, v, p, e, r => by unfold resP at e; cases e; cases r; exact .int i
  | n, .str s, v, p, e, r => by unfold resP at e; cases e; cases r; exact .str _
  | 0, .tup ds, v, p, e, _ => by unfold resP at e; cases e
  | 0, .ref a, v, p, e, _ => by unfold resP at e; cases e
  | n + 1, .tup ds, v, p, e, r => by
    unfold resP at e
    obtain ⟨ps, e1, rfl⟩ := Option.map_eq_some_iff.mp e
    obtain ⟨t, vs, rfl, q, r⟩ := r
    exact .tup q (resPs_dp hr n ds vs ps e1 r)
  | n + 1, .ref a, v, p, e, r => by
    unfold resP at e
    cases r
    split at e
    · rename_i ds ha
      obtain ⟨ps, e1, rfl⟩ := Option.map_eq_some_iff.mp e
      obtain ⟨vs, hv, rv⟩ := hr a _ ha
      exact .lst (SqL.of hv) (resPs_dp hr n ds vs ps e1 rv)
    · cases e
  termination_by n d => (n, sizeOf d)
theorem resPs_dp {K : Frag} {cx : Cls2} {S : Hs} {H : Hp} (hr : Rel K cx S H) : ∀ (n : Nat) (ds : List D) (vs : List V) (ps : List PyData), resPs S n ds = some ps → RepL K H ds vs → DpAll K H vs ps
  | n, [], vs, ps, e, r => by unfold resPs at e; cases e; cases r; exact .nil
  | n, d :: ds, vs, ps, e, r => by
    unfold resPs at e
    obtain ⟨v, vr, rfl, r, rr⟩ := r
    split at e
    · rename_i p ps' e1 e2
      cases e
      exact .cons (resP_dp hr n d v p e1 r) (resPs_dp hr n ds vr ps' e2 rr)
    · cases e
  termination_by n ds => (n, sizeOf ds)
end
theorem resX_dp {S : Hs} {H : Hp} {a : Vx} {x : V} {p : PyData} (hr : Rel X.K cx S H) (ra : RepX X.K H S a x) (e : resX S a = some p) : Dp X.K H x p := by
  cases a with
  | d y => exact resP_dp hr 50 y x p e ra
  | vl ds =>
    obtain ⟨ps, e1, rfl⟩ := Option.map_eq_some_iff.mp e
    obtain ⟨l, vs, rfl, h, _, r⟩ := ra
    exact .lst (SqL.of h) (resPs_dp hr 49 ds vs ps e1 r)
  | bw ds =>
    obtain ⟨ps, e1, rfl⟩ := Option.map_eq_some_iff.mp e
    obtain ⟨l, vs, rfl, h, _, r⟩ := ra
    exact .lst (SqL.of h) (resPs_dp hr 49 ds vs ps e1 r)
  | _ => cases e
theorem eqH_rd {a b : Vx} {x y : V} {S : Hs} {H : Hp} {P : Bool → Prop} (hr : Rel X.K cx S H) (ra : RepX X.K H S a x) (rb : RepX X.K H S b y) (w : eqH a b S P) :
    ∃ d e, Dp X.K H x d ∧ Dp X.K H y e ∧ SeqAt.shaped d = true ∧ SeqAt.shaped e = true ∧ P (PyData.eqv d e) := let ⟨p, q, h1, h2, h3, h4, k⟩ := w; ⟨p, q, resX_dp hr ra h1, resX_dp hr rb h2, h3, h4, k⟩
theorem op2_eqh (hu : X.A.units + 64 < cLine) : OpR X (compareOp .Eq) (r2of X.K cx (op2D .eqh)) := opImp (op_eqD hu) fun x y H Q w => by
  obtain ⟨S, a, b, hr, ra, rb, w⟩ := w
  obtain ⟨d, e, h1, h2, h3, h4, q⟩ := eqH_rd (P := fun k => KVof X.K cx S H Q (.d (.bl k)) S) hr ra rb w
  exact ⟨d, e, h1, h2, h3, h4, fin_bl q hr⟩
theorem op2_neh (hu : X.A.units + 64 < cLine) : OpR X (compareOp .NotEq) (r2of X.K cx (op2D .neh)) := opImp (op_neD hu) fun x y H Q w => by
  obtain ⟨S, a, b, hr, ra, rb, w⟩ := w
  obtain ⟨d, e, h1, h2, h3, h4, q⟩ := eqH_rd (P := fun k => KVof X.K cx S H Q (.d (.bl (!k))) S) hr ra rb w
  exact ⟨d, e, h1, h2, h3, h4, fin_bl q hr⟩
theorem op2_eq (hu : X.A.units + 64 < cLine) : OpR X (compareOp .Eq) (r2of X.K cx (op2D .eq)) := opImp (opOr (op_eqD hu) (opOr (op_eqE hu) (op_eqK hu))) fun x y H Q w => by
  obtain ⟨S, a, b, hr, ra, rb, w⟩ := w
  rcases eqD_rd (P := fun k => KVof X.K cx S H Q (.d (.bl (k))) S) hr ra rb w with ⟨d, e, h1, h2, h3, h4, q⟩ | ⟨p, q, vs, h1, h2, h3, h4, q'⟩ | ⟨p, q, vs, h1, h2, h3, h4, q'⟩
  · exact .inl ⟨d, e, h1, h2, h3, h4, fin_bl q hr⟩
  · exact .inr (.inl ⟨p, q, vs, h1, h2, h3, h4, fin_bl q' hr⟩)
  · exact .inr (.inr ⟨p, q, vs, h1, h2, h3, h4, fin_bl q' hr⟩)
theorem op2_ne (hu : X.A.units + 64 < cLine) : OpR X (compareOp .NotEq) (r2of X.K cx (op2D .ne)) := opImp (opOr (op_neD hu) (opOr (op_neE hu) (op_neK hu))) fun x y H Q w => by
  obtain ⟨S, a, b, hr, ra, rb, w⟩ := w
  rcases eqD_rd (P := fun k => KVof X.K cx S H Q (.d (.bl (!k))) S) hr ra rb w with ⟨d, e, h1, h2, h3, h4, q⟩ | ⟨p, q, vs, h1, h2, h3, h4, q'⟩ | ⟨p, q, vs, h1, h2, h3, h4, q'⟩
  · exact .inl ⟨d, e, h1, h2, h3, h4, fin_bl q hr⟩
  · exact .inr (.inl ⟨p, q, vs, h1, h2, h3, h4, fin_bl q' hr⟩)
  · exact .inr (.inr ⟨p, q, vs, h1, h2, h3, h4, fin_bl q' hr⟩)
theorem isN_rep {K : Frag} {H : Hp} {S : Hs} {a : Vx} {x : V} (r : RepX K H S a x) : (x = .non) ↔ a = .d .non := by
  constructor
  · rintro rfl
    cases a with
    | d y =>
      cases y with
      | non => rfl
      | bl b => cases r
      | int b => cases r
      | str b => cases r
      | ref b => cases r
      | tup b => obtain ⟨_, _, e, _⟩ := r; cases e
    | vl _ => obtain ⟨_, _, e, _⟩ := r; cases e
    | bw _ => obtain ⟨_, _, e, _⟩ := r; cases e
    | fz _ => obtain ⟨_, _, e, _⟩ := r; cases e
    | vd _ => obtain ⟨_, _, e, _⟩ := r; cases e
    | bd _ => obtain ⟨_, _, e, _⟩ := r; cases e
    | st _ => exact r.elim
  · rintro rfl
    exact r
theorem isD_non {a : Vx} {b : Bool} (h : isD a (.d .non) = some b) {K : Frag} {H : Hp} {S : Hs} {x : V} (r : RepX K H S a x) : decide (x = .non) = b := by
  by_cases e : a = .d .non
  · subst e
    cases h
    exact decide_eq_true r
  · have : isD a (.d .non) = some false := by
      cases a with
      | d y => cases y <;> first | rfl | exact absurd rfl e
      | _ => rfl
    rw [this] at h
    cases h
    exact decide_eq_false fun z => e ((isN_rep r).mp z)
theorem is_cases {a b : Vx} {k : Bool} (h : isD a b = some k) : b = .d .non ∨ ∃ p q, a = .d (.bl p) ∧ b = .d (.bl q) ∧ k = decide (p = q) := by
  unfold isD at h
  split at h
  · exact .inl rfl
  · exact .inl rfl
  · cases h; exact .inr ⟨_, _, rfl, rfl, rfl⟩
  · cases h
theorem op2_is : OpR X (compareOp .Is) (r2of X.K cx (op2D .is)) := by
  intro pins s σ H x y v u Q I rx ry w
  obtain ⟨S, a, b, hr, ra, rb, k, e, w⟩ := w
  rcases is_cases e with rfl | ⟨p, q, rfl, rfl, rfl⟩
  · refine op_isN pins s σ H x y v u Q I rx ry ⟨rb, ?_⟩
    rw [isD_non e ra]
    exact fin_bl w hr
  · cases ra
    cases rb
    exact op_isBl pins s σ H _ _ v u Q I rx ry ⟨p, q, rfl, rfl, fin_bl w hr⟩
theorem op2_isnt : OpR X (compareOp .IsNot) (r2of X.K cx (op2D .isnt)) := by
  intro pins s σ H x y v u Q I rx ry w
  obtain ⟨S, a, b, hr, ra, rb, k, e, w⟩ := w
  rcases is_cases e with rfl | ⟨p, q, rfl, rfl, rfl⟩
  · refine op_notN pins s σ H x y v u Q I rx ry ⟨rb, ?_⟩
    rw [isD_non e ra]
    exact fin_bl w hr
  · cases ra
    cases rb
    exact op_notBl pins s σ H _ _ v u Q I rx ry ⟨p, q, rfl, rfl, fin_bl w hr⟩
end
end DL

/-! DL3n: dicts whose keys are tuples (of any depth). -/
namespace DL
open PySem L2 PySem.Spec PyProof.Rows
/-! ### keys -/
mutual
theorem nk_depth : ∀ (n : Nat) (d : D), pl n d = true → (nkD d).depth ≤ n
  | n, .non, _ => by simp [nkD, NestedKey.depth]
  | n, .bl b, _ => by simp [nkD, NestedKey.depth]
  | n, .int i, _ => by simp [nkD, NestedKey.depth]
  | n, .str s, _ => by simp [nkD, NestedKey.depth]
  | n, .ref a, h => by cases n <;> simp [pl] at h
  | 0, .tup ds, h => by simp [pl] at h
  | n + 1, .tup ds, h => by
    have := nks_depth n ds (by simpa [pl] using h)
    simp only [nkD, NestedKey.depth]; omega
theorem nks_depth : ∀ (n : Nat) (ds : List D), pls n ds = true → NestedKey.depthAll (nkDs ds) ≤ n
  | n, [], _ => by simp [nkDs, NestedKey.depthAll]
  | n, d :: ds, h => by
    simp only [pls, Bool.and_eq_true] at h
    have h1 := nk_depth n d h.1
    have h2 := nks_depth n ds h.2
    simp only [nkDs, NestedKey.depthAll]; omega
end
theorem nk_num {i j : Int} : decide ((NestedKey.num i) = .num j) = decide (i = j) := by
  by_cases e : i = j
  · subst e; simp
  · rw [decide_eq_false e, decide_eq_false fun z => e (NestedKey.num.inj z)]
theorem nk_text {i j : List Nat} : decide ((NestedKey.text (sv i)) = .text (sv j)) = decide (i = j) := by
  by_cases e : i = j
  · subst e; simp
  · rw [decide_eq_false e, decide_eq_false fun z => e (by have := congrArg (fun z : Str => z.cps.toList) (NestedKey.text.inj z); simpa using this)]
mutual
theorem nk_eq : ∀ (n m : Nat) (a b : D), pl n a = true → pl m b = true → eqB a b = decide (nkD a = nkD b)
  | n, m, .non, b, _, hb => by cases b <;> first | rfl | (simp [nkD, eqB]; done) | (cases m <;> simp [pl] at hb)
  | n, m, .bl x, b, _, hb => by
    cases b with
    | bl y => show (x == y) = decide ((NestedKey.num _) = .num _); rw [nk_num]; cases x <;> cases y <;> rfl
    | int j => show decide _ = decide ((NestedKey.num _) = .num _); rw [nk_num]
    | ref a => cases m <;> simp [pl] at hb
    | _ => simp [nkD, eqB]
  | n, m, .int x, b, _, hb => by
    cases b with
    | bl y => show decide _ = decide ((NestedKey.num _) = .num _); rw [nk_num]
    | int j => show decide _ = decide ((NestedKey.num _) = .num _); rw [nk_num]
    | ref a => cases m <;> simp [pl] at hb
    | _ => simp [nkD, eqB]
  | n, m, .str x, b, _, hb => by
    cases b with
    | str y => show decide _ = decide ((NestedKey.text _) = .text _); rw [nk_text]
    | ref a => cases m <;> simp [pl] at hb
    | _ => simp [nkD, eqB]
  | n, m, .ref a, b, ha, _ => by cases n <;> simp [pl] at ha
  | 0, m, .tup as, b, ha, _ => by simp [pl] at ha
  | n + 1, m, .tup as, b, ha, hb => by
    cases b with
    | tup bs =>
      cases m with
      | zero => simp [pl] at hb
      | succ m =>
        have := nks_eq n m as bs (by simpa [pl] using ha) (by simpa [pl] using hb)
        show eqBs as bs = decide ((NestedKey.tup (nkDs as)) = .tup (nkDs bs))
        rw [this]
        by_cases e : nkDs as = nkDs bs
        · rw [decide_eq_true e, decide_eq_true (by rw [e])]
        · rw [decide_eq_false e, decide_eq_false fun z => e (NestedKey.tup.inj z)]
    | ref a => cases m <;> simp [pl] at hb
    | _ => simp [nkD, eqB]
theorem nks_eq : ∀ (n m : Nat) (a b : List D), pls n a = true → pls m b = true → eqBs a b = decide (nkDs a = nkDs b)
  | n, m, [], [], _, _ => rfl
  | n, m, [], y :: b, _, _ => by simp [nkDs, eqBs]
  | n, m, x :: a, [], _, _ => by simp [nkDs, eqBs]
  | n, m, x :: a, y :: b, ha, hb => by
    simp only [pls, Bool.and_eq_true] at ha hb
    have h1 := nk_eq n m x y ha.1 hb.1
    have h2 := nks_eq n m a b ha.2 hb.2
    show (eqB x y && eqBs a b) = decide (nkD x :: nkDs a = nkD y :: nkDs b)
    rw [h1, h2]
    by_cases e1 : nkD x = nkD y
    · by_cases e2 : nkDs a = nkDs b
      · rw [decide_eq_true e1, decide_eq_true e2, decide_eq_true (by rw [e1, e2])]; rfl
      · rw [decide_eq_true e1, decide_eq_false e2, decide_eq_false fun z => e2 (List.cons.inj z).2]; rfl
    · rw [decide_eq_false e1, decide_eq_false fun z => e1 (List.cons.inj z).1]; rfl
end
theorem keyN_pl {d : D} (h : keyN d = true) : ∃ ds, d = .tup ds ∧ pl 8 d = true := by
  cases d <;> first | exact ⟨_, rfl, h⟩ | cases h
theorem keyN_eq {a b : D} (ha : keyN a = true) (hb : keyN b = true) : eqB a b = decide (nkD a = nkD b) := by
  obtain ⟨_, _, h1⟩ := keyN_pl ha
  obtain ⟨_, _, h2⟩ := keyN_pl hb
  exact nk_eq 8 8 a b h1 h2
section
variable {X : Cx} {pins : List (Addr × Obj)} {σ : L2.St} {H : Hp} {s : Shared}
mutual
theorem rep_nested (I : Inv X pins σ H s) : ∀ (n : Nat) (d : D) (v : V) (u : Value), pl n d = true → RepV X.K H d v → RelV v u → NestedIs s.heap (nkD d) u
  | _, .non, _, u, _, r, ru => by cases r; cases ru; exact .none
  | _, .bl b, _, u, _, r, ru => by cases r; cases ru; exact .bool rfl
  | _, .int i, _, u, _, r, ru => by cases r; obtain ⟨t, rfl⟩ := ru; exact .int i t
  | _, .str x, _, u, _, r, ru => by cases r; obtain ⟨t, rfl⟩ := ru; exact .text _ t
  | n, .ref a, _, u, h, _, _ => by cases n <;> simp [pl] at h
  | 0, .tup ds, _, u, h, _, _ => by simp [pl] at h
  | n + 1, .tup ds, _, u, h, ⟨t, vs, e, q, r⟩, ru => by
    subst e
    cases ru
    obtain ⟨its, rv, ⟨o, ho, hc, m, hd⟩, _⟩ := I.tuple q
    exact .tup ho hc hd (reps_nested I n ds vs _ (by simpa [pl] using h) r rv)
theorem reps_nested (I : Inv X pins σ H s) : ∀ (n : Nat) (ds : List D) (vs : List V) (us : List Value), pls n ds = true → RepL X.K H ds vs → Vals vs us → NestedAll s.heap (nkDs ds) us
  | _, [], _, us, _, r, rv => by cases r; cases rv; exact .nil
  | n, d :: ds, _, us, h, ⟨v, vr, e, r, rr⟩, rv => by
    subst e
    cases rv with
    | cons r1 r2 =>
      simp only [pls, Bool.and_eq_true] at h
      exact .cons (rep_nested I n d v _ h.1 r r1) (reps_nested I n ds vr _ h.2 rr r2)
end
/-- the value is the key -/
theorem key_is (I : Inv X pins σ H s) {d : D} {v : V} {u : Value} (h : keyN d = true) (r : RepV X.K H d v) (ru : RelV v u) : ∃ b, v = .ref b ∧ u = .ref b ∧ (nestedKind X.prog X.w).is s.heap (nkD d) b := by
  obtain ⟨ds, rfl, hp⟩ := keyN_pl h
  have hr := rep_nested I 8 _ v u hp r ru
  obtain ⟨t, vs, rfl, q, _⟩ := r
  cases ru
  exact ⟨t, rfl, rfl, hr, nk_depth 8 _ hp⟩
/-! ### a dict of them -/
variable {w : World} {a : Addr} {kvs : List (D × D)} {xs : List NE}
theorem DnR.get {K : Frag} {x : D} (hx : keyN x = true) : ∀ {kvs : List (D × D)} {xs : List NE}, DnR K H kvs xs → (∀ y, dget kvs x = some y → ∃ p v, atKey xs (nkD x) = some p ∧ RelV v p.2 ∧ RepV K H y v) ∧ (dget kvs x = none → atKey xs (nkD x) = none)
  | _, _, .nil => ⟨(fun y e => by cases e), fun _ => rfl⟩
  | (k, y) :: r, (k', b, u) :: r', .cons h t => by
    obtain ⟨h1, h2, h3, v, h4, h5⟩ := h
    have ih := DnR.get hx t
    have h2 : k' = nkD k := h2
    have e : eqB k x = decide (nkD k = nkD x) := keyN_eq h1 hx
    by_cases q : nkD k = nkD x
    · rw [decide_eq_true q] at e
      have e1 : dget ((k, y) :: r) x = some y := by unfold dget; rw [e]
      have e2 : atKey ((k', b, u) :: r') (nkD x) = some (b, u) := by simp [atKey, List.find?_cons, h2, q]
      rw [e1, e2]
      exact ⟨fun z hz => ⟨_, v, rfl, h4, by cases hz; exact h5⟩, fun z => by cases z⟩
    · rw [decide_eq_false q] at e
      have e1 : dget ((k, y) :: r) x = dget r x := by show (match eqB k x with | true => some y | false => dget r x) = _; rw [e]
      have e2 : atKey ((k', b, u) :: r') (nkD x) = atKey r' (nkD x) := by simp [atKey, List.find?_cons, h2, q]
      rw [e1, e2]
      exact ih
theorem DnR.has {K : Frag} {x : D} (hx : keyN x = true) {kvs : List (D × D)} {xs : List NE} (r : DnR K H kvs xs) : dhas kvs x = (atKey xs (nkD x)).isSome := by
  unfold dhas
  cases e : dget kvs x with
  | none => rw [(r.get hx).2 e]; rfl
  | some y => obtain ⟨p, v, h, _⟩ := (r.get hx).1 y e; rw [h]; rfl
theorem DnR.put {K : Frag} {x y : D} {b : Addr} {v : V} {u : Value} (hx : keyN x = true) (rx : RepV K H x (.ref b)) (ry : RepV K H y v) (rv : RelV v u) {kvs : List (D × D)} {xs : List NE} (r : DnR K H kvs xs) : DnR K H (dput kvs x y) (storedH xs (nkD x) b u) := by
  have e := r.has hx
  unfold dput storedH
  rw [← e]
  cases dhas kvs x with
  | true =>
    rw [if_pos rfl]
    show DnR K H (kvs.map _) _
    clear e
    induction r with
    | nil => exact .nil
    | @cons p q l1 l2 h t ih =>
      obtain ⟨k, z⟩ := p
      obtain ⟨k', b', z'⟩ := q
      obtain ⟨h1, h2, h3, v', h4, h5⟩ := h
      have h2 : k' = nkD k := h2
      have e : eqB k x = decide (nkD k = nkD x) := keyN_eq h1 hx
      refine .cons ?_ ih
      by_cases q : nkD k = nkD x
      · have e1 : putAt (nkD x) u (k', b', z') = (k', b', u) := by unfold putAt; rw [if_pos (h2.trans q)]
        show DnE K H (match eqB k x with | true => (k, y) | false => (k, z)) (putAt (nkD x) u (k', b', z'))
        rw [e, decide_eq_true q, e1]
        exact ⟨h1, h2, h3, v, rv, ry⟩
      · have e1 : putAt (nkD x) u (k', b', z') = (k', b', z') := by unfold putAt; rw [if_neg fun z => q (h2.symm.trans z)]
        show DnE K H (match eqB k x with | true => (k, y) | false => (k, z)) (putAt (nkD x) u (k', b', z'))
        rw [e, decide_eq_false q, e1]
        exact ⟨h1, h2, h3, v', h4, h5⟩
  | false =>
    rw [if_neg (by simp)]
    show DnR K H (kvs ++ [(x, y)]) _
    exact Paired.snoc r ⟨hx, rfl, rx, v, rv, ry⟩
theorem DnR.length {K : Frag} {kvs : List (D × D)} {xs : List NE} (r : DnR K H kvs xs) : kvs.length = xs.length := Paired.length r
theorem stored_len {xs : List NE} {k : NestedKey} {b : Addr} {u : Value} : (storedH xs k b u).length ≤ xs.length + 1 := by
  unfold storedH
  split <;> simp
/-- what may be read as a dict of tuples -/
def DnAt (w : World) (H : Hp) (a : Addr) (xs : List NE) : Prop := H a = some (dnO w a xs) ∨ ∃ o, H a = some (.frz o (dnO w a xs))
theorem dn_obj (I : Inv X pins σ H s) (h : DnAt X.w H a xs) : dnP X.w a xs s.heap := by
  rcases h with h | ⟨o, h⟩
  · exact (I.hok a _ h).1
  · exact (I.hok a _ h).2.1
theorem dn_of (I : Inv X pins σ H s) (h : DnAt X.w H a xs) (r : DnOk X.K H a kvs xs) : s.heap.DictOfH (nestedKind X.prog X.w) a xs := by
  obtain ⟨o, es, ep, h1, h2, h3, h4⟩ := dn_obj I h
  refine ⟨o, es, ep, h1, h2, h3, h4, fun x hx => ?_, r.nd⟩
  have : ∀ {kvs : List (D × D)} {xs : List NE}, DnR X.K H kvs xs → ∀ x ∈ xs, (nestedKind X.prog X.w).is s.heap x.1 x.2.1 := by
    intro kvs xs r
    induction r with
    | nil => intro x hx; cases hx
    | cons h _ ih =>
      intro x hx
      rcases List.mem_cons.mp hx with rfl | hx
      · obtain ⟨h1, h2, h3, _⟩ := h
        obtain ⟨b, e1, e2, h⟩ := key_is I h1 h3 (u := .ref x.2.1) rfl
        cases e1
        rw [h2]; exact h
      · exact ih x hx
  exact this r.r x hx
variable {A : Around} {E : Value → Shared → Prop} {u : Value} {v : V} {x y : D}
theorem dn_in {Q : Value → Shared → Prop} (hu : A.units + 60 < cLine) (I : Inv X pins σ H s) (h : DnAt X.w H a xs) (r : DnOk X.K H a kvs xs) (hx : keyN x = true) (rx : RepV X.K H x v) (ru : RelV v u) (q : ∀ s', Inv X pins σ H s' → Q (.bool (dhas kvs x)) s') :
    wpAny (model X.prog X.w) A (compareOp .In u (.ref a)) Q E s := by
  obtain ⟨b, rfl, rfl, hk⟩ := key_is I hx rx ru
  refine wpAny_in_heap (show A.units + 1 + 8 < cLine by omega) hk r.m (dn_of I h r) ?_
  rw [← r.r.has hx]
  exact q _ (I.tok _)
theorem dn_notIn {Q : Value → Shared → Prop} (hu : A.units + 60 < cLine) (I : Inv X pins σ H s) (h : DnAt X.w H a xs) (r : DnOk X.K H a kvs xs) (hx : keyN x = true) (rx : RepV X.K H x v) (ru : RelV v u) (q : ∀ s', Inv X pins σ H s' → Q (.bool (!dhas kvs x)) s') :
    wpAny (model X.prog X.w) A (compareOp .NotIn u (.ref a)) Q E s := by
  obtain ⟨b, rfl, rfl, hk⟩ := key_is I hx rx ru
  refine wpAny_notIn_heap (show A.units + 1 + 8 < cLine by omega) hk r.m (dn_of I h r) ?_
  rw [← r.r.has hx]
  exact q _ (I.tok _)
theorem dn_getItem {Q : Value → Shared → Prop} (hu : A.units + 60 < cLine) (I : Inv X pins σ H s) (h : DnAt X.w H a xs) (r : DnOk X.K H a kvs xs) (hx : keyN x = true) (rx : RepV X.K H x v) (ru : RelV v u) (e : dget kvs x = some y)
    (q : ∀ zv w' s', Inv X pins σ H s' → RelV zv w' → RepV X.K H y zv → Q w' s') : wpAny (model X.prog X.w) A (getItem (.ref a) u) Q E s := by
  obtain ⟨b, rfl, rfl, hk⟩ := key_is I hx rx ru
  obtain ⟨p, zv, h1, h2, h3⟩ := (r.r.get hx).1 y e
  exact wpAny_getItem_heap (show A.units + 1 + 8 < cLine by omega) hk (dn_of I h r) h1 (q zv _ _ (I.tok _) h2 h3)
theorem dn_typeIs (I : Inv X pins σ H s) (h : DnAt X.w H a xs) : s.TypeIs (.ref a) "dict" := by
  obtain ⟨o, es, ep, h1, h2, _⟩ := dn_obj I h
  exact ⟨o, h1, h2.1⟩
theorem dnP_ext {w : World} {a : Addr} {xs : List NE} : ∀ h1 h2 : Heap, dnP w a xs h1 → (∀ o, h1.get? a = some o → h2.get? a = some o) → dnP w a xs h2 := fun h1 h2 ⟨o, es, ep, e, r⟩ k => ⟨o, es, ep, k _ e, r⟩
theorem dn_okO {P : Program} {w : World} {H : Hp} {h : Heap} {a : Addr} {xs : List NE} (p : dnP w a xs h) : ObjOk P w H h a (dnO w a xs) := ⟨p, let ⟨o, _, _, e, _⟩ := p; ⟨o, e⟩, dnP_ext⟩
theorem dn_tups {K : Frag} {H : Hp} {w : World} {a : Addr} {xs : List NE} {h : HO} (hp : H a = some (dnO w a xs)) : TupS K H (upd H a h) := tupS_upd fun o e => by rw [hp] at e; cases e; rfl
theorem dn_setItem {Q : Unit → Shared → Prop} {uy : Value} {vy : V} (hu : A.units + 60 < cLine) (I : Inv X pins σ H s) (h : H a = some (dnO X.w a xs)) (r : DnOk X.K H a kvs xs) (hl : kvs.length < sizeLine) (hx : keyN x = true) (rx : RepV X.K H x v) (ru : RelV v u) (ry : RepV X.K H y vy) (ruy : RelV vy uy)
    (q : ∀ xs' s', Inv X pins σ (upd H a (dnO X.w a xs')) s' → DnOk X.K (upd H a (dnO X.w a xs')) a (dput kvs x y) xs' → Q () s') : wpAny (model X.prog X.w) A (setItem (.ref a) u uy) Q E s := by
  obtain ⟨b, rfl, rfl, hk⟩ := key_is I hx rx ru
  refine wpAny_setItem_heap (hsz := r.z) (show A.units + 1 + 8 < cLine by omega) hk (dn_of I (.inl h) r) fun h' dd hs => ?_
  obtain ⟨o, es, ep, h1, h2, h3, h4, _, h5⟩ := dd
  have p : dnP X.w a (storedH xs (nkD x) b uy) h' := ⟨o, es, ep, h1, h2, h3, h4⟩
  refine q _ _ (d_write I (by rw [h]; exact True.intro) hs ⟨o, h1⟩ (dn_okO p)) ?_
  refine DnOk.keep (dn_tups h) ⟨r.r.put hx rx ry ruy, h5, ?_, r.m⟩
  have := stored_len (xs := xs) (k := nkD x) (b := b) (u := uy)
  have := r.r.length
  omega
/-- a new one -/
theorem pe_dn {pos : Pos} : PE X (.Dict [] [] pos) (fun _ H Q => ∀ p, H p = none → (p == sysModules) = false → Q (.ref p) (upd H p (dnO X.w p []))) := ⟨fun pins s σ H Q I h => by
  have hb : sysModules < s.heap.objs.size := Inv.big I
  exact wpAny_Dict_empty ⟨.ref s.heap.objs.size, _, I.laid (a := s.heap.objs.size) (o := dnO X.w s.heap.objs.size []) (t' := s.toks) (fun _ _ q => Heap.get?_push_of_some _ q) (Nat.le_refl _) (dn_okO ⟨_, #[], 0, Heap.get?_push_size _ rfl, ⟨rfl, rfl, rfl⟩, rfl, rfl⟩), rfl,
    h _ (I.hok.fresh (Nat.le_refl _)) (beq_eq_false_iff_ne.mpr (Nat.ne_of_gt hb))⟩⟩
end
end DL

/-! DL4: the operators are sound: in, subscripts, calls of built-ins, slices, stores. -/
namespace DL
open PySem L2 PySem.Spec PyProof.Rows
/-! ### dicts -/
def keyK : D → Key
  | .int i => .inl i
  | .str s => .inr (sv s)
  | _ => .inl 0
theorem KeyR.of {d : D} {k : Key} (h : KeyR d k) : keyD d = true ∧ k = keyK d := by
  cases d <;> first | exact h.elim | exact ⟨rfl, h⟩
theorem keyR_mk {d : D} (h : keyD d = true) : KeyR d (keyK d) := by
  cases d <;> first | rfl | cases h
theorem eqB_key {a b : D} (h : keyD a = true) (h' : keyD b = true) : eqB a b = decide (keyK a = keyK b) := by
  cases a <;> first | cases h | skip
  · cases b <;> first | cases h' | skip
    · rename_i i j
      show decide (i = j) = decide ((Sum.inl i : Key) = Sum.inl j)
      by_cases e : i = j
      · subst e; simp
      · rw [decide_eq_false e, decide_eq_false fun z => e (Sum.inl.inj z)]
    · rename_i i j
      show false = decide ((Sum.inl i : Key) = Sum.inr _)
      exact (decide_eq_false fun z => by cases z).symm
  · cases b <;> first | cases h' | skip
    · rename_i i j
      show false = decide ((Sum.inr _ : Key) = Sum.inl j)
      exact (decide_eq_false fun z => by cases z).symm
    · rename_i i j
      show decide (i = j) = decide ((Sum.inr (sv i) : Key) = Sum.inr (sv j))
      by_cases e : i = j
      · subst e; simp
      · rw [decide_eq_false e, decide_eq_false fun z => e (by have := congrArg (fun z : Str => z.cps.toList) (Sum.inr.inj z); simpa using this)]
theorem key_rel {K : Frag} {H : Hp} {x : D} {v : V} (h : keyD x = true) (r : RepV K H x v) : v = kV (keyK x) := by
  cases x <;> first | (cases h; done) | exact r
section
variable {K : Frag} {H : Hp}
theorem DicR.get {x : D} (hx : keyD x = true) : ∀ {kvs : List (D × D)} {ks : List (Key × V)}, DicR K H kvs ks → (∀ y, dget kvs x = some y → ∃ v, valV ks (keyK x) = some v ∧ RepV K H y v) ∧ (dget kvs x = none → valV ks (keyK x) = none)
  | _, _, .nil => ⟨(fun y e => by cases e), fun _ => rfl⟩
  | (k, y) :: r, (k', v) :: r', .cons h t => by
    obtain ⟨hk, hv⟩ := h
    obtain ⟨h1, h2⟩ := KeyR.of hk
    have ih := DicR.get hx t
    have e : eqB k x = decide (keyK k = keyK x) := eqB_key h1 hx
    have h2 : k' = keyK k := h2
    by_cases q : keyK k = keyK x
    · rw [decide_eq_true q] at e
      have e1 : dget ((k, y) :: r) x = some y := by unfold dget; rw [e]
      have e2 : valV ((k', v) :: r') (keyK x) = some v := valV_pos (show k' = keyK x from h2.trans q)
      rw [e1, e2]
      exact ⟨fun z hz => ⟨v, rfl, by cases hz; exact hv⟩, fun z => by cases z⟩
    · rw [decide_eq_false q] at e
      have e1 : dget ((k, y) :: r) x = dget r x := by show (match eqB k x with | true => some y | false => dget r x) = _; rw [e]
      have e2 : valV ((k', v) :: r') (keyK x) = valV r' (keyK x) := valV_neg (show ¬ k' = keyK x from fun z => q (h2.symm.trans z))
      rw [e1, e2]
      exact ih
theorem DicR.has {x : D} (hx : keyD x = true) {kvs : List (D × D)} {ks : List (Key × V)} (r : DicR K H kvs ks) : dhas kvs x = (valV ks (keyK x)).isSome := by
  unfold dhas
  cases e : dget kvs x with
  | none => rw [(r.get hx).2 e]; rfl
  | some y => obtain ⟨v, h, _⟩ := (r.get hx).1 y e; rw [h]; rfl
theorem DicR.length {kvs : List (D × D)} {ks : List (Key × V)} (r : DicR K H kvs ks) : kvs.length = ks.length := Paired.length r
theorem DicR.put {x y : D} {v : V} (hx : keyD x = true) (ry : RepV K H y v) {kvs : List (D × D)} {ks : List (Key × V)} (r : DicR K H kvs ks) : DicR K H (dput kvs x y) (putK ks (keyK x) v) := by
  have e := r.has hx
  unfold dput putK
  rw [valV_any, ← e]
  cases dhas kvs x with
  | true =>
    rw [if_pos rfl]
    show DicR K H (kvs.map _) _
    clear e
    induction r with
    | nil => exact .nil
    | @cons p q l1 l2 h t ih =>
      obtain ⟨k, z⟩ := p
      obtain ⟨k', z'⟩ := q
      obtain ⟨h1, h2⟩ := KeyR.of h.1
      have h2 : k' = keyK k := h2
      have e : eqB k x = decide (keyK k = keyK x) := eqB_key h1 hx
      refine .cons ?_ ih
      show KeyR (match eqB k x with | true => (k, y) | false => (k, z)).1 (if k' = keyK x then (k', v) else (k', z')).1 ∧ RepV K H (match eqB k x with | true => (k, y) | false => (k, z)).2 (if k' = keyK x then (k', v) else (k', z')).2
      by_cases q : keyK k = keyK x
      · rw [e, decide_eq_true q, if_pos (show k' = keyK x from h2.trans q)]
        exact ⟨h.1, ry⟩
      · rw [e, decide_eq_false q, if_neg (show ¬ k' = keyK x from fun z => q (h2.symm.trans z))]
        exact h
  | false =>
    rw [if_neg (by simp)]
    show DicR K H (kvs ++ [(x, y)]) _
    exact Paired.snoc r ⟨keyR_mk hx, ry⟩
theorem dput_length (kvs : List (D × D)) (x y : D) : (dput kvs x y).length ≤ kvs.length + 1 := by
  unfold dput
  split <;> simp
end
section
variable {X : Cx} {cx : Cls2}
theorem flat_rel {K : Frag} {H : Hp} {x : D} {v : V} (h : flatD x = true) (r : RepV K H x v) : flatV v = true := by
  cases x <;> first | (cases h; done) | (cases r; rfl)
theorem flats_rel {K : Frag} {H : Hp} : ∀ {ds : List D} {vs : List V}, ds.all flatD = true → RepL K H ds vs → vs.all flatV = true
  | [], _, _, e => by cases e; rfl
  | d :: ds, _, h, ⟨v, vr, e, r, rr⟩ => by
    subst e
    rw [List.all_cons, Bool.and_eq_true] at h
    rw [List.all_cons, flat_rel h.1 r, flats_rel h.2 rr]; rfl
theorem eqV_eqB {K : Frag} {H : Hp} {a b : D} {v u : V} (ha : flatD a = true) (hb : flatD b = true) (ra : RepV K H a v) (rb : RepV K H b u) : eqV v u = eqB a b := by
  cases a <;> first | (cases ha; done) | skip
  all_goals cases b <;> first | (cases hb; done) | skip
  all_goals cases ra
  all_goals cases rb
  all_goals first
    | rfl
    | (simp [eqV, eqB, Bool.beq_eq_decide_eq]; done)
    | (show (sv _ == sv _) = decide _; exact sv_inj)
theorem inV_any {K : Frag} {H : Hp} {x : D} {v : V} (hx : flatD x = true) (rx : RepV K H x v) : ∀ {ds : List D} {vs : List V}, ds.all flatD = true → RepL K H ds vs → inV v vs = ds.any fun y => eqB y x
  | [], _, _, e => by cases e; rfl
  | d :: ds, _, h, ⟨u, vr, e, r, rr⟩ => by
    subst e
    rw [List.all_cons, Bool.and_eq_true] at h
    have ih := inV_any hx rx h.2 rr
    unfold inV at ih ⊢
    rw [List.any_cons, List.any_cons, ih, eqV_eqB h.1 hx r rx]
theorem anyP : ∀ {ds : List D} {x : D}, pls 60 ds = true → pln x = true → ((toPs ds).any fun z => PyData.eqv z (toP x)) = ds.any fun y => eqB y x
  | [], _, _, _ => rfl
  | d :: ds, x, h, hx => by
    simp only [pls, Bool.and_eq_true] at h
    show ((toP d :: toPs ds).any _) = _
    rw [List.any_cons, List.any_cons, anyP h.2 hx, eqB_eqv d x 60 60 h.1 hx]
theorem DGet.fk {H : Hp} {a : Addr} {kvs : List (Key × V)} {k : Key} {o : Obj} (e : H a = some (.frz o (.dK kvs))) : DGet H a (kV k) (valV kvs k) := .inl ⟨kvs, k, .inr ⟨o, e⟩, rfl, rfl⟩
/-- in, by the container: the answer told to a wish P -/
theorem mem_ok (neg : Bool) (hu : X.A.units + 65 < cLine) (hw : cx.w = X.w) : OpR X (compareOp (if neg then .NotIn else .In)) (r2of X.K cx fun a b S Q => memD a b S fun k => Q (.d (.bl (if neg then !k else k))) S) := by
  intro pins s σ H x y v u Q I rx ry w
  obtain ⟨S, a, b, hr, ra, rb, w⟩ := w
  cases a <;> first | exact w.elim | skip
  rename_i x'
  obtain ⟨c, w, hc⟩ := view_of hr rb w
  unfold memC at w
  split at w
  · obtain ⟨p, vs, rfl, hp, r1⟩ := hc
    have k := fin_bl w.2.2 hr
    rw [← anyP w.2.1 w.1] at k
    cases neg with
    | true => exact op_notInD hu pins s σ H _ _ v u Q I rx ry ⟨_, _, RepV.dp 60 _ _ w.1 ra, .lst (SqL.of hp) (RepL.dp 60 _ _ w.2.1 r1), pln_shaped w.1, plns_shaped w.2.1, k⟩
    | false => exact op_inD hu pins s σ H _ _ v u Q I rx ry ⟨_, _, RepV.dp 60 _ _ w.1 ra, .lst (SqL.of hp) (RepL.dp 60 _ _ w.2.1 r1), pln_shaped w.1, plns_shaped w.2.1, k⟩
  · obtain ⟨p, vs, rfl, hp, r1⟩ := hc
    have k := fin_bl w.2.2 hr
    rw [← inV_any w.1 ra w.2.1 r1] at k
    cases neg with
    | true => exact op_notIn_seq pins s σ H _ _ v u Q I rx ry ⟨p, vs, rfl, .inr hp, flat_rel w.1 ra, flats_rel w.2.1 r1, k⟩
    | false => exact op_in_seq pins s σ H _ _ v u Q I rx ry ⟨p, vs, rfl, .inr hp, flat_rel w.1 ra, flats_rel w.2.1 r1, k⟩
  · obtain ⟨p, ks, rfl, hp, r1⟩ := hc
    cases ry
    have k := fin_bl w.2 hr
    rw [r1.has w.1] at k
    have ex := key_rel w.1 ra
    subst ex
    cases neg with
    | true => exact d_notIn (by omega) I (DGet.k hp) rx fun s' I' => ⟨.bl _, H, I', rfl, k⟩
    | false => exact d_in (by omega) I (DGet.k hp) rx fun s' I' => ⟨.bl _, H, I', rfl, k⟩
  · obtain ⟨p, ks, o, rfl, hp, r1⟩ := hc
    cases ry
    have k := fin_bl w.2 hr
    rw [r1.has w.1] at k
    have ex := key_rel w.1 ra
    subst ex
    cases neg with
    | true => exact d_notIn (by omega) I (DGet.fk hp) rx fun s' I' => ⟨.bl _, H, I', rfl, k⟩
    | false => exact d_in (by omega) I (DGet.fk hp) rx fun s' I' => ⟨.bl _, H, I', rfl, k⟩
  · obtain ⟨p, xs, rfl, hp, r1⟩ := hc
    cases ry
    have k := fin_bl w.2 hr
    rw [hw] at hp
    cases neg with
    | true => exact dn_notIn (by omega) I (.inl hp) r1 w.1 ra rx fun s' I' => ⟨.bl _, H, I', rfl, k⟩
    | false => exact dn_in (by omega) I (.inl hp) r1 w.1 ra rx fun s' I' => ⟨.bl _, H, I', rfl, k⟩
  · obtain ⟨p, xs, o, rfl, hp, r1⟩ := hc
    cases ry
    have k := fin_bl w.2 hr
    rw [hw] at hp
    cases neg with
    | true => exact dn_notIn (by omega) I (.inr ⟨o, hp⟩) r1 w.1 ra rx fun s' I' => ⟨.bl _, H, I', rfl, k⟩
    | false => exact dn_in (by omega) I (.inr ⟨o, hp⟩) r1 w.1 ra rx fun s' I' => ⟨.bl _, H, I', rfl, k⟩
  · cases ra
    cases hc
    have k := fin_bl w hr
    cases neg with
    | true => exact op_notIn_sign pins s σ H _ _ v u Q I rx ry ⟨_, _, rfl, rfl, by simpa using k⟩
    | false => exact op_in_sign pins s σ H _ _ v u Q I rx ry ⟨_, _, rfl, rfl, by simpa using k⟩
  · exact w.elim
theorem memh_ok (neg : Bool) (hu : X.A.units + 65 < cLine) : OpR X (compareOp (if neg then .NotIn else .In)) (r2of X.K cx fun a b S Q => memH a b S fun k => Q (.d (.bl (if neg then !k else k))) S) := by
  intro pins s σ H x y v u Q I rx ry w
  obtain ⟨S, a, b, hr, ra, rb, w⟩ := w
  cases a <;> first | exact w.elim | skip
  rename_i x'
  obtain ⟨c, w, hc⟩ := view_of hr rb w
  cases c <;> first | exact w.elim | skip
  obtain ⟨p, vs, rfl, hp, r1⟩ := hc
  have k := fin_bl w.2.2 hr
  rw [← anyP w.2.1.2 w.1] at k
  obtain ⟨as, q1⟩ := Dp.reads I _ x v (RepV.dp 60 _ _ w.1 ra) rx
  have sh : SeqAt.shaped (toP (.tup _)) = true := pln_shaped (a := .tup _) w.2.1.1
  obtain ⟨bs, q2⟩ := Dp.reads I _ _ u (Dp.tup hp (RepL.dp 59 _ _ w.2.1.1 r1)) ry
  cases neg with
  | true => exact SeqAt.notIn_tuple_reads q2 q1 (SeqAt.canLay_of_shaped sh) (SeqAt.canLay_of_shaped (pln_shaped w.1)) (room_in_shaped (pln_shaped w.1) hu) ⟨.bl _, H, I, rfl, k⟩
  | false => exact SeqAt.in_tuple_reads q2 q1 (SeqAt.canLay_of_shaped sh) (SeqAt.canLay_of_shaped (pln_shaped w.1)) (room_in_shaped (pln_shaped w.1) hu) ⟨.bl _, H, I, rfl, k⟩
theorem op2_memh (hu : X.A.units + 65 < cLine) : OpR X (compareOp .In) (r2of X.K cx (op2D .memh)) := memh_ok (cx := cx) false hu
theorem op2_nmemh (hu : X.A.units + 65 < cLine) : OpR X (compareOp .NotIn) (r2of X.K cx (op2D .nmemh)) := memh_ok (cx := cx) true hu
theorem op2_mem (hu : X.A.units + 65 < cLine) (hw : cx.w = X.w) : OpR X (compareOp .In) (r2of X.K cx (op2D .mem)) := mem_ok (cx := cx) false hu hw
theorem op2_nmem (hu : X.A.units + 65 < cLine) (hw : cx.w = X.w) : OpR X (compareOp .NotIn) (r2of X.K cx (op2D .nmem)) := mem_ok (cx := cx) true hu hw

/-! ### subscripts -/
theorem getI_atI {α β : Type} {xs : List α} {ys : List β} (h : xs.length = ys.length) {i : Int} {x : α} (e : getI xs i = some x) : ∃ j : Nat, xs[j]? = some x ∧ ∀ y, ys[j]? = some y → atI ys i = some y := by
  cases i with
  | ofNat n =>
    refine ⟨n, e, fun y hy => ?_⟩
    have hn : n < ys.length := (List.getElem?_eq_some_iff.mp hy).1
    unfold atI ixN
    rw [if_pos (by simp), if_pos (by simp; omega)]
    simpa using hy
  | negSucc n =>
    have e : (if n < xs.length then xs[xs.length - (n + 1)]? else none) = some x := e
    split at e
    · rename_i hn
      refine ⟨_, e, fun y hy => ?_⟩
      unfold atI ixN
      rw [if_neg (by omega), if_pos (by rw [← h]; omega)]
      have e2 : (Int.negSucc n + (ys.length : Int)).toNat = xs.length - (n + 1) := by rw [← h]; omega
      show ys[_]? = _
      rw [e2]
      exact hy
    · cases e
theorem RepL.getI {K : Frag} {H : Hp} {ds : List D} {vs : List V} {i : Int} {d : D} (r : RepL K H ds vs) (e : DL.getI ds i = some d) : ∃ v, atI vs i = some v ∧ RepV K H d v := by
  obtain ⟨j, h1, h2⟩ := getI_atI r.length e
  obtain ⟨v, h3, h4⟩ := r.get h1
  exact ⟨v, h2 v h3, h4⟩
theorem ix_ok (hu : X.A.units + 65 < cLine) (hw : cx.w = X.w) : IxR X (r2of X.K cx (op2D .idx)) := by
  intro value slice pins s σ H x y v u Q I rx ry w hs
  obtain ⟨S, a, b, hr, ra, rb, w⟩ := w
  have w : idxD a b S (KVof X.K cx S H Q) := w
  unfold idxD at w
  split at w
  · obtain ⟨c, w, hc⟩ := view_of hr ra w
    unfold idxC at w
    split at w
    · obtain ⟨p, vs, rfl, hp, r1⟩ := hc
      cases rb
      obtain ⟨z, e, k⟩ := w
      obtain ⟨zv, h1, h2⟩ := r1.getI e
      exact ix_list value slice pins s σ H _ _ v u Q I rx ry ⟨p, vs, _, zv, rfl, rfl, SqL.of hp, h1, fin_d k hr h2⟩ hs
    · obtain ⟨p, vs, rfl, hp, r1⟩ := hc
      cases rb
      obtain ⟨z, e, k⟩ := w
      obtain ⟨zv, h1, h2⟩ := r1.getI e
      exact ix_list value slice pins s σ H _ _ v u Q I rx ry ⟨p, vs, _, zv, rfl, rfl, hp, h1, fin_d k hr h2⟩ hs
    · obtain ⟨p, vs, rfl, hp, r1⟩ := hc
      cases rb
      obtain ⟨z, e, k⟩ := w
      obtain ⟨zv, h1, h2⟩ := r1.getI e
      exact ix_tup value slice pins s σ H _ _ v u Q I rx ry ⟨p, vs, _, zv, rfl, rfl, hp, h1, fin_d k hr h2⟩ hs
    · cases hc
      cases rb
      obtain ⟨hz, z, e, k⟩ := w
      rename_i _ cs i _
      obtain ⟨j, h1, h2⟩ := getI_atI (ys := (sv cs).cps.toList) (by simp) e
      exact ix_str value slice pins s σ H _ _ v u Q I rx ry ⟨_, _, z, rfl, rfl, by rw [sv_length]; exact hz, h2 z (by simpa using h1), fin_d k hr rfl⟩ hs
    · obtain ⟨p, ks, rfl, hp, r1⟩ := hc
      cases rx
      obtain ⟨hk, z, e, k⟩ := w
      obtain ⟨zv, h1, h2⟩ := (r1.get hk).1 _ e
      have ex := key_rel hk rb
      subst ex
      have g : DGet H p (kV (keyK _)) (some zv) := h1 ▸ DGet.k hp
      exact tail_any (dict_typeIs I g) PySem.F.slot_dict_getitem.lookup (d_getItem (by omega) I g ry fun w' s3 I3 rw' => ⟨zv, H, I3, rw', fin_d k hr h2⟩) hs
    · obtain ⟨p, ks, o, rfl, hp, r1⟩ := hc
      cases rx
      obtain ⟨hk, z, e, k⟩ := w
      obtain ⟨zv, h1, h2⟩ := (r1.get hk).1 _ e
      have ex := key_rel hk rb
      subst ex
      have g : DGet H p (kV (keyK _)) (some zv) := h1 ▸ DGet.fk hp
      exact tail_any (dict_typeIs I g) PySem.F.slot_dict_getitem.lookup (d_getItem (by omega) I g ry fun w' s3 I3 rw' => ⟨zv, H, I3, rw', fin_d k hr h2⟩) hs
    · obtain ⟨p, xs, rfl, hp, r1⟩ := hc
      cases rx
      obtain ⟨hk, z, e, k⟩ := w
      rw [hw] at hp
      exact tail_any (dn_typeIs I (.inl hp)) PySem.F.slot_dict_getitem.lookup (dn_getItem (by omega) I (.inl hp) r1 hk rb ry e fun zv w' s3 I3 rw' h2 => ⟨zv, H, I3, rw', fin_d k hr h2⟩) hs
    · obtain ⟨p, xs, o, rfl, hp, r1⟩ := hc
      cases rx
      obtain ⟨hk, z, e, k⟩ := w
      rw [hw] at hp
      exact tail_any (dn_typeIs I (.inr ⟨o, hp⟩)) PySem.F.slot_dict_getitem.lookup (dn_getItem (by omega) I (.inr ⟨o, hp⟩) r1 hk rb ry e fun zv w' s3 I3 rw' h2 => ⟨zv, H, I3, rw', fin_d k hr h2⟩) hs
    · exact w.elim
  · exact w.elim
end
end DL

/-! DL5: the operators are sound: calls of built-ins, slices, stores, methods that change lists and dicts. -/
namespace DL
open PySem L2 PySem.Spec PyProof.Rows
def c1of (K : Frag) (cx : Cls2) (o : O1) : List V → Hp → VK → Prop := fun vs H Q => ∃ v, vs = [v] ∧ r1of K cx (op1D o) v H Q
def c2of (K : Frag) (cx : Cls2) (o : O2) : List V → Hp → VK → Prop := fun vs H Q => ∃ v u, vs = [v, u] ∧ r2of K cx (op2D o) v u H Q
section
variable {X : Cx} {cx : Cls2}
theorem op1_neg : UnR X (unaryOp .USub) (r1of X.K cx (op1D .neg)) := by
  intro pins s σ H x v Q I rx w
  obtain ⟨S, a, hr, ra, w⟩ := w
  have w : negD a S _ := w
  unfold negD at w
  split at w
  · cases ra
    exact un_neg pins s σ H _ v Q I rx ⟨_, rfl, fin_int w hr⟩
  · exact w.elim
theorem view_len {K : Frag} {H : Hp} {c : Cn} {v : V} {n : Nat} (hc : CnR K cx H c v) (e : lenC c = some n) : LenV K v H n ∨ ∃ a ks, v = .ref a ∧ H a = some (.dK ks) ∧ n = ks.length := by
  cases c with
  | l ds => obtain ⟨p, vs, rfl, hp, r⟩ := hc; cases e; exact .inl (.inl ⟨vs, SqL.of hp, r.length⟩)
  | f ds => obtain ⟨p, vs, rfl, hp, r⟩ := hc; cases e; exact .inl (.inl ⟨vs, hp, r.length⟩)
  | t ds => obtain ⟨p, vs, rfl, hp, r⟩ := hc; cases e; exact .inl (.inr ⟨vs, hp, r.length⟩)
  | k ds => obtain ⟨p, vs, rfl, hp, r⟩ := hc; cases e; exact .inr ⟨p, vs, rfl, hp, r.length⟩
  | s cs =>
    cases hc
    simp only [lenC] at e
    split at e
    · cases e
      rename_i h
      exact .inl ⟨by rw [sv_length]; exact h, (sv_length _).symm⟩
    · cases e
  | i _ _ => cases e
  | kf _ => cases e
  | kn _ => cases e
  | kfn _ => cases e
  | e _ => exact hc.elim
theorem call1_len : CallR X (.builtin "len") (c1of X.K cx .len) := by
  intro pins s σ H xs us Q I r w
  obtain ⟨v, rfl, S, a, hr, ra, w⟩ := w
  obtain ⟨c, w, hc⟩ := view_of hr ra w
  obtain ⟨n, e, k⟩ := w
  have k := fin_int k hr
  rcases view_len hc e with h | ⟨p, ks, rfl, hp, rfl⟩
  · exact call_len pins s σ H _ us Q I r ⟨_, _, rfl, h, k⟩
  · exact call_lenD pins s σ H _ us Q I r ⟨_, _, rfl, hp, k⟩
theorem call1_int : CallR X (.type "int") (c1of X.K cx .int) := by
  intro pins s σ H xs us Q I r w
  obtain ⟨v, rfl, S, a, hr, ra, w⟩ := w
  have w : toIntD a S _ := w
  unfold toIntD at w
  split at w <;> first | exact w.elim | skip
  all_goals cases ra
  · exact call_int1 pins s σ H _ us Q I r (.inl ⟨_, rfl, fin_int w hr⟩)
  · exact call_int1 pins s σ H _ us Q I r (.inr ⟨_, rfl, fin_int w hr⟩)
theorem toStr_sv (i : Int) : ((toString i : String) : Str) = sv ((toString i : String).toList.map Char.toNat) := Str.ofString_eq_toList _
theorem call1_str : CallR X (.type "str") (c1of X.K cx .str) := by
  intro pins s σ H xs us Q I r w
  obtain ⟨v, rfl, S, a, hr, ra, w⟩ := w
  have w : strD a S _ := w
  unfold strD at w
  split at w <;> first | exact w.elim | skip
  all_goals cases ra
  refine call_str_int pins s σ H _ us Q I r ⟨_, rfl, w.1, fin_d w.2 hr ?_⟩
  show V.str _ = V.str _
  rw [toStr_sv]
theorem view_seq {K : Frag} {H : Hp} {c : Cn} {v : V} {ds : List D} (hc : CnR K cx H c v) (e : seqOf c = some ds) : ∃ p vs, v = .ref p ∧ (SqL K H p vs ∨ SqT K H p vs) ∧ RepL K H ds vs ∧ (SqT K H p vs ∨ ¬ ∃ es, c = .t es) := by
  cases c with
  | l ds => obtain ⟨p, vs, rfl, hp, r⟩ := hc; cases e; exact ⟨p, vs, rfl, .inl (SqL.of hp), r, .inr fun ⟨_, z⟩ => by cases z⟩
  | f ds => obtain ⟨p, vs, rfl, hp, r⟩ := hc; cases e; exact ⟨p, vs, rfl, .inl hp, r, .inr fun ⟨_, z⟩ => by cases z⟩
  | t ds => obtain ⟨p, vs, rfl, hp, r⟩ := hc; cases e; exact ⟨p, vs, rfl, .inr hp, r, .inl hp⟩
  | _ => cases e
theorem call1_list : CallR X (.type "list") (c1of X.K cx .list) := by
  intro pins s σ H xs us Q I r w
  obtain ⟨v, rfl, S, a, hr, ra, w⟩ := w
  obtain ⟨c, w, hc⟩ := view_of hr ra w
  obtain ⟨ds, e, k⟩ := w
  obtain ⟨p, vs, rfl, hp, r1, _⟩ := view_seq hc e
  exact call_list_of pins s σ H _ us Q I r ⟨p, vs, rfl, hp, fin_vl k hr r1⟩
theorem call1_tuple : CallR X (.type "tuple") (c1of X.K cx .tuple) := by
  intro pins s σ H xs us Q I r w
  obtain ⟨v, rfl, S, a, hr, ra, w⟩ := w
  obtain ⟨c, w, hc⟩ := view_of hr ra w
  obtain ⟨ds, e, k⟩ := w
  obtain ⟨p, vs, rfl, hp, r1, _⟩ := view_seq hc e
  rcases hp with hp | hp
  · exact call_tuple_of pins s σ H _ us Q I r ⟨p, vs, rfl, .inl ⟨hp, fin_tup k hr r1⟩⟩
  · exact call_tuple_of pins s σ H _ us Q I r ⟨p, vs, rfl, .inr ⟨hp, fin_d k hr ⟨p, vs, rfl, hp, r1⟩⟩⟩
theorem dic_ints {K : Frag} {H : Hp} : ∀ {kvs : List (D × D)} {ks : List (Key × V)} {ns : List Int}, DicR K H kvs ks → kvs.map Prod.fst = ns.map D.int → ks.map (·.1) = ns.map Sum.inl
  | [], _, ns, .nil, e => by
    cases ns with
    | nil => rfl
    | cons n ns => cases e
  | p :: kvs, q :: ks, ns, .cons h t, e => by
    cases ns with
    | nil => cases e
    | cons n ns =>
      simp only [List.map_cons, List.cons.injEq] at e ⊢
      refine ⟨?_, dic_ints t e.2⟩
      have h := h.1
      rw [e.1] at h
      exact h
theorem call1_sorted (hcalm : X.calm = true) : CallR X (.builtin "sorted") (c1of X.K cx .sorted) := by
  intro pins s σ H xs us Q I r w
  obtain ⟨v, rfl, S, a, hr, ra, w⟩ := w
  obtain ⟨c, w, hc⟩ := view_of hr ra w
  obtain ⟨ns, e, k⟩ := w
  rcases e with rfl | ⟨kvs, rfl, e, h64⟩
  · obtain ⟨p, vs, rfl, hp, r1⟩ := hc
    have e := r1.ints
    subst e
    exact cr_sortedI pins s σ H _ us Q I r ⟨p, ns, rfl, SqL.of hp, fun ns' q h1 h2 n => fin_vl (k ns' h1 h2) hr (RepL.ofInts ns') q n⟩
  · obtain ⟨p, ks, rfl, hp, rd⟩ := hc
    exact call_sortedDI hcalm pins s σ H _ us Q I r ⟨p, ks, ns, rfl, .inl hp, dic_ints rd e, h64, fun ns' q h1 h2 n => fin_vl (k ns' h1 h2) hr (RepL.ofInts ns') q n⟩
theorem call1_dict : CallR X (.type "dict") (c1of X.K cx .dict) := by
  intro pins s σ H xs us Q I r w
  obtain ⟨v, rfl, S, a, hr, ra, w⟩ := w
  obtain ⟨c, w, hc⟩ := view_of hr ra w
  obtain ⟨kvs, rfl, w⟩ := w
  obtain ⟨p, ks, rfl, hp, rd⟩ := hc
  exact call_dictD pins s σ H _ us Q I r ⟨p, ks, rfl, .inl hp, fun q hq => w _ _ (hr.upd0 (hr.free hq) (tupS_new hq)) (.new hq) ⟨⟨q, ks, rfl, upd_same, hr.free hq, rd.keep (tupS_new hq)⟩, fun _ => ⟨q, rfl, hq⟩⟩⟩
theorem call1_all (hc : X.calm = true) : CallR X (.builtin "all") (c1of X.K cx .all) := by
  intro pins s σ H xs us Q I r w
  obtain ⟨v, rfl, S, a, hr, ra, w⟩ := w
  obtain ⟨c, w, hc'⟩ := view_of hr ra w
  obtain ⟨ds, ns, rfl, rfl, k⟩ := w
  obtain ⟨p, vs, rfl, hp, r1⟩ := hc'
  have e := r1.bls
  subst e
  exact cr_all hc pins s σ H _ us Q I r ⟨p, ns, rfl, SqL.of hp, fin_bl k hr⟩
theorem call1_any (hc : X.calm = true) : CallR X (.builtin "any") (c1of X.K cx .any) := by
  intro pins s σ H xs us Q I r w
  obtain ⟨v, rfl, S, a, hr, ra, w⟩ := w
  obtain ⟨c, w, hc'⟩ := view_of hr ra w
  obtain ⟨ds, ns, rfl, rfl, k⟩ := w
  obtain ⟨p, vs, rfl, hp, r1⟩ := hc'
  have e := r1.bls
  subst e
  exact cr_any hc pins s σ H _ us Q I r ⟨p, ns, rfl, SqL.of hp, fin_bl k hr⟩
theorem call2_min (hc : X.calm = true) : CallR X (.builtin "min") (c2of X.K cx .min) := by
  intro pins s σ H xs us Q I r w
  obtain ⟨v, u, rfl, w⟩ := w
  obtain ⟨i, j, rfl, rfl, k⟩ := rI0_elim (gd := fun i j => .int (if j < i then j else i)) (fun _ _ _ => rfl) (fun _ _ _ _ h => h) w
  exact call_min2 hc pins s σ H _ us Q I r ⟨i, j, rfl, k⟩
theorem call2_max (hc : X.calm = true) : CallR X (.builtin "max") (c2of X.K cx .max) := by
  intro pins s σ H xs us Q I r w
  obtain ⟨v, u, rfl, w⟩ := w
  obtain ⟨i, j, rfl, rfl, k⟩ := rI0_elim (gd := fun i j => .int (if j > i then j else i)) (fun _ _ _ => rfl) (fun _ _ _ _ h => h) w
  exact call_max2 hc pins s σ H _ us Q I r ⟨i, j, rfl, k⟩

/-! ### isinstance -/
def Ty.nm : Ty → String
  | .int => "int"
  | .bool => "bool"
  | .str => "str"
  | .tuple => "tuple"
  | .list => "list"
  | .dict => "dict"
def Ty.all : List Ty := [.int, .bool, .str, .tuple, .list, .dict]
theorem kit_non (t : Ty) : kitB "NoneType" t.nm = some false := by cases t <;> decide +kernel
theorem kit_bool (t : Ty) : kitB "bool" t.nm = some (t = .bool || t = .int) := by cases t <;> decide +kernel
theorem kit_int (t : Ty) : kitB "int" t.nm = some (decide (t = .int)) := by cases t <;> decide +kernel
theorem kit_str (t : Ty) : kitB "str" t.nm = some (decide (t = .str)) := by cases t <;> decide +kernel
theorem kit_tuple (t : Ty) : kitB "tuple" t.nm = some (decide (t = .tuple)) := by cases t <;> decide +kernel
theorem kit_list (t : Ty) : kitB "list" t.nm = some (decide (t = .list)) := by cases t <;> decide +kernel
theorem kit_dict (t : Ty) : kitB "dict" t.nm = some (decide (t = .dict)) := by cases t <;> decide +kernel
theorem tupTy {K : Frag} {H : Hp} {a : Addr} {vs : List V} (h : SqT K H a vs) : TyX K H (.ref a) (.type "tuple") := by
  rcases h with (h | ⟨o, h⟩) | ⟨o, _, _, h, c, _⟩
  · exact .base (.tup h)
  · exact .fTuple h
  · exact .kTuple h c
theorem lstTy {K : Frag} {H : Hp} {a : Addr} {vs : List V} (h : SqL K H a vs) : TyX K H (.ref a) (.type "list") := by
  rcases h with (h | ⟨o, h⟩) | ⟨o, _, _, h, c, _⟩
  · exact .base (.lst h)
  · exact .base (.frz h)
  · exact .kList h c
theorem isi_ok (t : Ty) : CallR X (.builtin "isinstance") (fun vs H Q => ∃ v, vs = [v, .ty t.nm] ∧ r1of X.K cx (op1D (.isi t)) v H Q) := by
  intro pins s σ H xs us Q I r w
  obtain ⟨v, rfl, S, a, hr, ra, w⟩ := w
  have fin : ∀ {T : String} {b : Bool}, TyX X.K H v (.type T) → kitB T t.nm = some b → Q (.bl b) H → wpAny (model X.prog X.w) X.A (call (.builtin "isinstance") us) (EP X pins σ Q) X.xe s :=
    fun {T b} h1 h2 h3 => call_isi pins s σ H _ us Q I r ⟨v, .ty t.nm, .type T, .type t.nm, b, rfl, .ty _, h1, kit_ty h2, h3⟩
  have w : isiD t a S _ := w
  unfold isiD at w
  split at w
  · obtain ⟨b, e, k⟩ := w
    have k := fin_bl k hr
    unfold Ty.isD at e
    split at e
    · cases e; cases ra; exact fin (.base .non) (kit_non t) k
    · cases e; cases ra; exact fin (.base (.bl _)) (kit_bool t) k
    · cases e; cases ra; exact fin (.base (.int _)) (kit_int t) k
    · cases e; cases ra; exact fin (.base (.str _)) (kit_str t) k
    · cases e; obtain ⟨p, vs, rfl, hp, r1⟩ := ra; exact fin (tupTy hp) (kit_tuple t) k
    · cases ra
      split at e
      · rename_i h; cases e
        obtain ⟨vs, hp, _⟩ := hr _ _ h
        exact fin (.base (.lst hp)) (kit_list t) k
      · rename_i h; cases e
        obtain ⟨vs, hp, _⟩ := hr _ _ h
        exact fin (.base (.dK hp)) (kit_dict t) k
      · cases e
  · obtain ⟨p, vs, rfl, hp, _⟩ := ra
    exact fin (.base (.lst hp)) (kit_list t) (fin_bl w hr)
  · exact w.elim

/-! ### slices -/
theorem cutV_eq (vs : List V) (lo hi : Option Int) : cutV vs lo hi = cutI vs lo hi := rfl
theorem cut_all {vs : List V} {lo hi : Option Int} (h : HT.sIx vs.length 0 lo = 0 ∧ HT.sIx vs.length vs.length hi = vs.length) : cutV vs lo hi = vs := by
  unfold cutV
  rw [h.1, h.2]
  simp
def s1of (K : Frag) (cx : Cls2) : V → Option Int → Option Int → Hp → VK → Prop := fun x lo hi H Q => ∃ S a, Rel K cx S H ∧ RepX K H S a x ∧ view a S fun c => slcC c lo hi S (KVof K cx S H Q)
theorem slc_ok : SlR X (s1of X.K cx) := by
  intro pins s σ H x v vl vu lo hi sl Q I rx hs pl pu w
  obtain ⟨S, a, hr, ra, w⟩ := w
  obtain ⟨c, w, hc⟩ := view_of hr ra w
  cases c with
  | l ds =>
    obtain ⟨p, vs, rfl, hp, r1⟩ := hc
    exact sl_list pins s σ H _ v vl vu lo hi sl Q I rx hs pl pu ⟨p, vs, rfl, SqL.of hp, fin_vl w hr (r1.cut lo hi)⟩
  | f ds =>
    obtain ⟨p, vs, rfl, hp, r1⟩ := hc
    exact sl_list pins s σ H _ v vl vu lo hi sl Q I rx hs pl pu ⟨p, vs, rfl, hp, fin_vl w hr (r1.cut lo hi)⟩
  | t ds =>
    obtain ⟨p, vs, rfl, hp, r1⟩ := hc
    refine sl_tupA pins s σ H _ v vl vu lo hi sl Q I rx hs pl pu ⟨p, vs, rfl, hp, fun h => ?_, fun _ => fin_tup w hr (r1.cut lo hi)⟩
    have e := r1.cut lo hi
    rw [cut_all h] at e
    exact fin_d w hr ⟨p, vs, rfl, hp, e⟩
  | s cs =>
    cases hc
    refine sl_str pins s σ H _ v vl vu lo hi sl Q I rx hs pl pu ⟨_, rfl, by rw [sv_length]; exact w.1, ?_⟩
    refine fin_d w.2 hr ?_
    show V.str _ = V.str _
    congr 1
  | _ => exact w.elim

/-! ### changes of lists and dicts -/
theorem seqIx_nat {n m : Nat} (h : n < m) : seqIndex? (Int.ofNat n) m = some n := by
  have e : seqIndex? (Int.ofNat n) m = if (0 ≤ (if (n : Int) < 0 then (n : Int) + m else n) && (if (n : Int) < 0 then (n : Int) + m else n) < m) = true then some (if (n : Int) < 0 then (n : Int) + m else n).toNat else none := rfl
  have e1 : (if (n : Int) < 0 then (n : Int) + m else n) = (n : Int) := if_neg (by omega)
  rw [e, e1, if_pos (by simp; omega)]
  simp
theorem ixN_nat {n m : Nat} (h : n < m) : ixN m (Int.ofNat n) = some n := by
  unfold ixN
  simp only [Int.ofNat_eq_natCast]
  rw [if_pos (by omega), if_pos (by omega)]
  simp
/-- behind a mutator: the container at a is c', all else stands -/
def MOut (K : Frag) (cx : Cls2) (H : Hp) (a : Addr) (c' : Cn) (H' : Hp) : Prop := ∃ h', H' = upd H a h' ∧ CnR K cx H' c' (.ref a) ∧ ∀ o, H a = some o → seqish o = false
def mOf (K : Frag) (cx : Cls2) (m : M) : V → List V → Hp → VK → Prop := fun x vs H Q => ∃ S c a xs, Rel K cx S H ∧ x = .ref a ∧ CnR K cx H c (.ref a) ∧ Paired (RepX K H S) xs vs ∧
  mutC m c xs S fun c' r => ∀ H' v, MOut K cx H a c' H' → RepV K H' r v → Q v H'
theorem lst_tups {K : Frag} {H : Hp} {a : Addr} {xs : List V} {h : HO} (hp : H a = some (.lst xs)) : TupS K H (upd H a h) := tupS_upd fun o e => by rw [hp] at e; cases e; rfl
theorem dic_tups {K : Frag} {H : Hp} {a : Addr} {xs : List (Key × V)} {h : HO} (hp : H a = some (.dK xs)) : TupS K H (upd H a h) := tupS_upd fun o e => by rw [hp] at e; cases e; rfl
theorem mout_l {K : Frag} {H : Hp} {a : Addr} {xs ys : List V} {ds : List D} (hp : H a = some (.lst xs)) (r : RepL K H ds ys) : MOut K cx H a (.l ds) (upd H a (.lst ys)) :=
  ⟨_, rfl, ⟨a, ys, rfl, upd_same, r.keep (lst_tups hp)⟩, fun o e => by rw [hp] at e; cases e; rfl⟩
theorem mout_k {K : Frag} {H : Hp} {a : Addr} {xs ys : List (Key × V)} {ds : List (D × D)} (hp : H a = some (.dK xs)) (r : DicR K H ds ys) : MOut K cx H a (.k ds) (upd H a (.dK ys)) :=
  ⟨_, rfl, ⟨a, ys, rfl, upd_same, r.keep (dic_tups hp)⟩, fun o e => by rw [hp] at e; cases e; rfl⟩
theorem mut_append : MtR X "list.append" (mOf X.K cx .append) := by
  intro pins s σ H x vs v us Q I rx rv w
  obtain ⟨S, c, a, xs, hr, rfl, hc, ra, w⟩ := w
  unfold mutC at w
  split at w <;> first | (rename_i h1 _; cases h1; done) | (rename_i h1; cases h1; done) | exact w.elim | skip
  obtain ⟨p, ys, e, hp, r1⟩ := hc
  cases e
  cases ra with
  | cons q t =>
    cases t
    exact mt_append pins s σ H _ _ v us Q I rx rv ⟨a, ys, _, rfl, rfl, hp, by rw [← r1.length]; exact w.1, w.2 _ _ (mout_l hp (r1.append (RepL.cons q RepL.nil))) rfl⟩
theorem mut_pop : MtR X "list.pop" (mOf X.K cx .pop) := by
  intro pins s σ H x vs v us Q I rx rv w
  obtain ⟨S, c, a, xs, hr, rfl, hc, ra, w⟩ := w
  unfold mutC at w
  split at w <;> first | (rename_i h1 _; cases h1; done) | (rename_i h1; cases h1; done) | exact w.elim | skip
  obtain ⟨p, ys, e, hp, r1⟩ := hc
  cases e
  cases ra
  obtain ⟨y, e, w⟩ := w
  obtain ⟨yv, h1, h2⟩ := r1.get e
  exact mt_pop pins s σ H _ _ v us Q I rx rv ⟨a, ys, yv, rfl, rfl, hp, by rw [← r1.length]; exact h1, w _ _ (mout_l hp r1.dropLast) (h2.keep (lst_tups hp))⟩
theorem mut_popAt : MtR X "list.pop" (mOf X.K cx .popAt) := by
  intro pins s σ H x vs v us Q I rx rv w
  obtain ⟨S, c, a, xs, hr, rfl, hc, ra, w⟩ := w
  unfold mutC at w
  split at w <;> first | (rename_i h1 _; cases h1; done) | (rename_i h1; cases h1; done) | exact w.elim | skip
  obtain ⟨p, ys, e, hp, r1⟩ := hc
  cases e
  cases ra with
  | cons q t =>
    cases t
    obtain ⟨y, e, w⟩ := w
    obtain ⟨yv, h1, h2⟩ := r1.get e
    cases q
    obtain ⟨z, its, n, r, hl, e⟩ := I.lstM hp
    have hn := (List.getElem?_eq_some_iff.mp h1).1
    have hl2 := line63
    refine mt_popAt pins s σ H _ _ v us Q I rx rv ⟨a, ys, _, _, yv, rfl, rfl, hp, ?_, ?_, ?_, h1, w _ _ (mout_l hp (r1.eraseIdx _)) (h2.keep (lst_tups hp))⟩
    · exact Int.le_trans (by decide) (Int.natCast_nonneg _)
    · show ((_ : Nat) : Int) < 2 ^ 63
      omega
    · exact seqIx_nat hn
theorem mut_insert : MtR X "list.insert" (mOf X.K cx .insert) := by
  intro pins s σ H x vs v us Q I rx rv w
  obtain ⟨S, c, a, xs, hr, rfl, hc, ra, w⟩ := w
  unfold mutC at w
  split at w <;> first | (rename_i h1 _; cases h1; done) | (rename_i h1; cases h1; done) | exact w.elim | skip
  obtain ⟨p, ys, e, hp, r1⟩ := hc
  cases e
  cases ra with
  | cons q t =>
    cases t with
    | cons q2 t =>
      cases t
      cases q
      obtain ⟨w1, w2, w⟩ := w
      refine mt_insert pins s σ H _ _ v us Q I rx rv ⟨a, ys, _, _, rfl, rfl, hp, by rw [← r1.length]; exact w1, Int.natCast_nonneg _, ?_, w _ _ (mout_l hp ?_) rfl⟩
      · show ((_ : Nat) : Int) < 2 ^ 63
        omega
      · simp only [Int.ofNat_eq_natCast, Int.toNat_natCast]
        exact ((r1.take _).append (RepL.cons q2 RepL.nil)).append (r1.drop _)
theorem mut_extend : MtR X "list.extend" (mOf X.K cx .extend) := by
  intro pins s σ H x vs v us Q I rx rv w
  obtain ⟨S, c, a, xs, hr, rfl, hc, ra, w⟩ := w
  unfold mutC at w
  split at w <;> first | (rename_i h1 _; cases h1; done) | (rename_i h1; cases h1; done) | exact w.elim | skip
  obtain ⟨p, ys, e, hp, r1⟩ := hc
  cases e
  cases ra with
  | cons q t =>
    cases t
    obtain ⟨c', ⟨es, rfl, hz, w⟩, hc'⟩ := view_of hr q w
    obtain ⟨p', zs, rfl, hp', r2⟩ := hc'
    exact mt_extend pins s σ H _ _ v us Q I rx rv ⟨a, p', ys, zs, rfl, rfl, hp, hp', by rw [← r1.length, ← r2.length]; exact hz, w _ _ (mout_l hp (r1.append r2)) rfl⟩
theorem mut_clear : MtR X "list.clear" (mOf X.K cx .clear) := by
  intro pins s σ H x vs v us Q I rx rv w
  obtain ⟨S, c, a, xs, hr, rfl, hc, ra, w⟩ := w
  unfold mutC at w
  split at w <;> first | (rename_i h1 _; cases h1; done) | (rename_i h1; cases h1; done) | exact w.elim | skip
  obtain ⟨p, ys, e, hp, r1⟩ := hc
  cases e
  cases ra
  exact mt_clear pins s σ H _ _ v us Q I rx rv ⟨a, ys, rfl, rfl, hp, w _ _ (mout_l hp RepL.nil) rfl⟩
/-- o[k] = v -/
def pset (K : Frag) (cx : Cls2) : TSet := fun x i v H Q => ∃ S c a kd vd, Rel K cx S H ∧ x = .ref a ∧ CnR K cx H c (.ref a) ∧ RepV K H kd i ∧ RepV K H vd v ∧
  mutC .setI c [.d kd, .d vd] S fun c' _ => ∀ H', MOut K cx H a c' H' → Q H'
theorem pset_ok (hu : X.A.units + 65 < cLine) (hw : cx.w = X.w) : PSet X (pset X.K cx) := by
  intro pins s σ H o i v ov iv u Q I ro ri rv w
  obtain ⟨S, c, a, kd, vd, hr, rfl, hc, rk, rw', w⟩ := w
  unfold mutC at w
  split at w <;> first | (rename_i h1 _; cases h1; done) | (rename_i h1; cases h1; done) | exact w.elim | skip
  · rename_i h2
    cases h2
    obtain ⟨p, ys, e, hp, r1⟩ := hc
    cases e
    cases rk
    refine set_list pins s σ H _ _ v ov iv u Q I ro ri rv ⟨a, ys, _, _, rfl, rfl, hp, ?_, w.2 _ (mout_l hp (r1.set _ rw'))⟩
    exact ixN_nat (by rw [← r1.length]; exact w.1)
  · rename_i h2
    cases h2
    obtain ⟨p, ks, e, hp, r1⟩ := hc
    cases e
    cases ro
    have ex := key_rel w.1 rk
    subst ex
    exact d_setItem (by omega) I (DPut.k hp (by rw [← r1.length]; exact w.2.1)) ri rv fun s' I' => ⟨_, I', w.2.2 _ (mout_k hp (r1.put w.1 rw'))⟩
  · rename_i h2
    cases h2
    obtain ⟨p, ks, e, hp, r1⟩ := hc
    cases e
    cases ro
    rw [hw] at hp
    refine dn_setItem (by omega) I hp r1 w.2.1 w.1 rk ri rw' rv fun xs' s' I' r' => ⟨_, I', w.2.2 _ ⟨_, rfl, ⟨a, xs', rfl, by rw [hw]; exact upd_same, r'⟩, fun o e => by rw [hp] at e; cases e; rfl⟩⟩
end
end DL

/-! DL5c: sorted(d.items()), d of ints by ints. -/
namespace L2.DX
open PySem PySem.Spec PyProof.Rows L2
/-- a pair's two ints, read off a heap -/
def pairAt (h : Heap) : Value → Int × Int
  | .ref b => match h.get? b with
    | some o => match o.data with
      | .seq a _ => match a.toList with
        | [.int x _, .int y _] => (x, y)
        | _ => (0, 0)
      | _ => (0, 0)
    | none => (0, 0)
  | _ => (0, 0)
def entI (p : Int × Int) : Key × V := (Sum.inl p.1, V.int p.2)
theorem pairs_get {P : Program} {w : World} {K : Type} [DecidableEq K] {knd : KeyKind P w K} : ∀ {es : List DictEntry} {kvs : List (K × Value)}, Pairs knd es kvs → es.length = kvs.length ∧ ∀ (j : Nat) (k : K) (v : Value), kvs[j]? = some (k, v) → ∃ e, es[j]? = some e ∧ knd.is k e.key = true ∧ e.val = v := by
  intro es kvs h
  induction h with
  | nil => exact ⟨rfl, fun j k v e => by simp at e⟩
  | cons hk hv hr ih =>
    refine ⟨by simp [ih.1], fun j k v e => ?_⟩
    cases j with
    | zero => simp at e; subst e; exact ⟨_, rfl, hk, hv⟩
    | succ j =>
      obtain ⟨e', h1, h2, h3⟩ := ih.2 j k v (by simpa using e)
      exact ⟨e', by simpa using h1, h2, h3⟩
def tSIt (td : TE) : TE := fun σ H Q => td σ H fun x H1 => ∃ (a : Addr) (ps : List (Int × Int)), x = .ref a ∧ H1 a = some (.dK (ps.map entI)) ∧ ps.length ≤ 1000 ∧
  ∀ (qs : List (Int × Int)) (ts : List Addr) (l : Addr) (H2 : Hp), qs.Perm ps → qs.Pairwise (fun p q => SrtO.lexB q p = false) → (∀ b o, H1 b = some o → H2 b = some o) → H1 l = none → H2 l = some (.lst (ts.map V.ref)) →
    Paired (fun (t : Addr) (q : Int × Int) => H2 t = some (.tup [.int q.1, .int q.2])) ts qs → Q (.ref l) H2
theorem pe_sItems {X : Cx} {e : Expr} {td : TE} {p apos cpos pos : Pos} (hc : X.calm = true) (hg : Gl X "sorted") (hm : X.mg "sorted" = none) (he : PE X e td)
    (hbase : attributeBase e "items" X.env (eval e X.env) = eval e X.env) (hline : (apos.endLine == cpos.line) = true)
    (na : starEach [(.Call (.Attribute e "items" apos) [] [] cpos : Expr)] X.env = (false, eval (.Call (.Attribute e "items" apos) [] [] cpos) X.env) :: starEach [] X.env := by rfl) :
    PE X (.Call (.Name "sorted" p) [.Call (.Attribute e "items" apos) [] [] cpos] [] pos) (tSIt td) := by
  refine ⟨fun pins s σ H Q I h => ?_⟩
  refine Call_ (ld_blt I hg hm PyProof.Rows.boot_sorted ?_)
  refine PyProof.Rows.callWith_builtin1 (PyProof.Rows.args_cons ?_ na) na rfl
  refine wpAny_Call_method (T := "dict") (id := "dict.items") hbase rfl hline F.plainAttrs_dict F.slot_dict_items F.type_dict_items (thn (he.run pins s σ H _ I h) fun u s1 ⟨x, H1, I1, rx, a, ps, ex, ha, h1000, q⟩ => ?_)
  subst ex
  obtain rfl : u = Value.ref a := rx
  obtain ⟨hz, hsm, vs, kv, o, es, ep, ho, hx, hdat, hko, hpr, hnd⟩ := I1.hok a _ ha
  obtain ⟨l1, hget⟩ := pairs_get hpr
  have l2 : (ps.map entI).length = vs.length := Paired.length kv
  rw [List.length_map] at l2
  have les : es.size = ps.length := by rw [← Array.length_toList, l1, ← l2]
  have hh : X.A.handled = none := I1.ok.hd hc
  have hdo : s1.heap.DictOf (mixKind X.prog X.w) a vs := ⟨o, es, ep, ho, hx, hdat, hko, hpr, hnd⟩
  refine ⟨hdo.typeIs, hdo.mapOf.noDict, ?_⟩
  have hvw : (s1.heap.push { cls := .type "dict_items", data := .fields #[.ref a] }).get? s1.heap.objs.size = some { cls := .type "dict_items", data := .fields #[.ref a] } := Heap.get?_push_size _ rfl
  have kv0 : ∀ b ob, s1.heap.get? b = some ob → (s1.heap.push { cls := .type "dict_items", data := .fields #[.ref a] }).get? b = some ob := fun b ob q => Heap.get?_push_of_some _ q
  show wpAny _ _ (callWith cpos (.builtin "dict.items") [.ref a] [] []) _ X.xe s1
  refine method_meetsIn F.slot_dict_items F.entry_dict_items rfl (PySem.evalArgs_none ⟨rfl, hdo.typeIs, F.args_dict_items_1 _, _, meets_dict_items (mixKind X.prog X.w) a hsm, ⟨vs, hdo⟩, ?_⟩)
  refine PyProof.Rows.args_nil ?_
  have I2 : Inv X pins σ H1 { s1 with heap := s1.heap.push { cls := .type "dict_items", data := .fields #[.ref a] } } := I1.kept (t' := s1.toks) kv0
  have hsz : (s1.heap.push { cls := .type "dict_items", data := .fields #[.ref a] }).objs.size = s1.heap.objs.size + 1 := Heap.size_push ..
  refine DT.sortedI (es := es) (ep := ep) (d := a) (r := s1.heap.objs.size) hh ⟨_, hvw, rfl, rfl⟩ ⟨o, kv0 _ _ ho, hx, hdat⟩ (by rw [les, sizeLine_eq]; omega) fun h' tk as hk hlt hl hG => ?_
  have lak : as.length = ps.length := by omega
  have nd : as.Nodup := List.Pairwise.imp (fun h => Nat.ne_of_lt h) hG.rise
  -- the pairs that were made
  have pr : ∀ (j : Nat) (b : Addr), as[j]? = some b → ∃ (p : Int × Int) (t1 t2 : Nat), ps[j]? = some p ∧ h'.get? b = some { cls := .type "tuple", data := .seq #[Value.int p.1 t1, Value.int p.2 t2] } := by
    intro j b hj
    obtain ⟨en, he, hg⟩ := hG.pairs j b hj
    have hjp : j < ps.length := by rw [← lak]; exact (List.getElem?_eq_some_iff.mp hj).1
    have e1 : (ps.map entI)[j]? = some (Sum.inl ps[j].1, V.int ps[j].2) := by rw [List.getElem?_map, List.getElem?_eq_getElem hjp]; rfl
    obtain ⟨u, hu, ru⟩ := kv_get kv e1
    obtain ⟨en', h1, h2, h3⟩ := hget j _ _ hu
    rw [← Array.getElem?_toList] at he
    rw [he] at h1
    cases h1
    obtain ⟨t2, rfl⟩ := ru
    rcases keyIs_shape (show keyIs (Sum.inl ps[j].1) en.key = true from h2) with ⟨i, t1, e2, e3⟩ | ⟨x, t1, e2, e3⟩
    · cases e2
      exact ⟨ps[j], t1, t2, List.getElem?_eq_getElem hjp, by rw [hg, e3, h3]⟩
    · cases e2
  -- the heap of the sort
  have hob : (h'.push { cls := .type "list", data := .seq (as.map Value.ref).toArray }).get? h'.objs.size = some (seqObj "list" (as.map Value.ref).toArray 0) := Heap.get?_push_size _ rfl
  have kb : ∀ b o, s1.heap.get? b = some o → (h'.push { cls := .type "list", data := .seq (as.map Value.ref).toArray }).get? b = some o := fun b o e => Heap.get?_push_of_some _ (hk b o (kv0 b o e))
  have ne0 : ∀ b o, h'.get? b = some o → b ≠ h'.objs.size := fun b o e => Nat.ne_of_lt (Heap.lt_size e)
  have hlt1 : s1.heap.objs.size < h'.objs.size := by
    have : s1.heap.objs.size + 1 < h'.objs.size := by rw [← hsz]; exact hlt
    omega
  generalize hh2 : h'.push { cls := .type "list", data := .seq (as.map Value.ref).toArray } = h2 at hob kb ⊢
  have ka : ∀ b o, h'.get? b = some o → h2.get? b = some o := fun b o e => by rw [← hh2]; exact Heap.get?_push_of_some _ e
  have pat : ∀ (j : Nat) (b : Addr) (p : Int × Int), as[j]? = some b → ps[j]? = some p → pairAt h2 (.ref b) = p ∧ Srt.IsPair h2 (.ref b) p.1 p.2 := by
    intro j b p hj hp
    obtain ⟨p', t1, t2, hp', hg⟩ := pr j b hj
    rw [hp] at hp'
    cases hp'
    have hg2 := ka _ _ hg
    refine ⟨?_, ⟨b, _, t1, t2, _, rfl, hg2, rfl, rfl⟩⟩
    show (match h2.get? b with | some o => (match o.data with | .seq a _ => (match a.toList with | [.int x _, .int y _] => (x, y) | _ => (0, 0)) | _ => (0, 0)) | none => (0, 0)) = p
    rw [hg2]
  have at_ : ∀ v ∈ as.map Value.ref, ∃ (j : Nat) (b : Addr) (p : Int × Int), v = .ref b ∧ as[j]? = some b ∧ ps[j]? = some p := by
    intro v hv'
    obtain ⟨b, hb, rfl⟩ := List.mem_map.mp hv'
    obtain ⟨j, hj⟩ := List.mem_iff_getElem?.mp hb
    obtain ⟨p, _, _, hp, _⟩ := pr j b hj
    exact ⟨j, b, p, rfl, hj, hp⟩
  have hps : ∀ v ∈ as.map Value.ref, Srt.IsPair h2 v (pairAt h2 v).1 (pairAt h2 v).2 := by
    intro v hv'
    obtain ⟨j, b, p, rfl, hj, hp⟩ := at_ v hv'
    obtain ⟨e1, e2⟩ := pat j b p hj hp
    rw [e1]; exact e2
  refine wpAny_call_entry PyProof.Rows.slot_list_sort ⟨_, hob, rfl⟩ PyProof.Rows.entry_list_sort
    (SrtO.list_sort_ord (s := { s1 with heap := h2, toks := tk }) (SrtO.swo_lex (pairAt h2)) hob (by rw [List.length_map, lak, sizeLine_eq]; omega) (fun h2' => SrtO.pairs_sortableO (by rw [List.length_map] at h2'; simp; omega) hps fun o e => ?_) fun out o1 o2 => ⟨.none, rfl, ?_⟩) (PyProof.Rows.args_list_sort _)
  · have e' : some o = some (seqObj "list" (as.map Value.ref).toArray 0) := e.symm.trans hob
    cases e'
    intro c
    exact absurd (Value.type.inj c) (by decide)
  show EP X pins σ Q (.ref h'.objs.size) { s1 with heap := sortedHeap h2 h'.objs.size (as.map Value.ref) out.toArray, toks := tk }
  obtain ⟨zs, pz, ez⟩ := perm_lift (fun z : Addr × Int × Int => Value.ref z.1) o2.perm (as.zip ps) (by
    rw [show (fun z : Addr × Int × Int => Value.ref z.1) = Value.ref ∘ Prod.fst from rfl, ← List.map_map, List.map_fst_zip (by omega)])
  have idx : ∀ z ∈ zs, ∃ j : Nat, as[j]? = some z.1 ∧ ps[j]? = some z.2 := by
    intro z' hz'
    obtain ⟨j, hj⟩ := List.mem_iff_getElem?.mp (pz.mem_iff.mp hz')
    exact ⟨j, List.getElem?_zip_eq_some.mp hj⟩
  have hperm : (zs.map (·.2)).Perm ps := by
    have e := pz.map (·.2)
    have m2 : (as.zip ps).map (·.2) = ps := List.map_snd_zip (by omega)
    rw [m2] at e
    exact e
  have hsort : (zs.map (·.2)).Pairwise (fun p q => SrtO.lexB q p = false) := by
    have o1' : (zs.map fun z => Value.ref z.1).Pairwise (fun x y => SrtO.lexB (pairAt h2 y) (pairAt h2 x) = false) := by rw [ez]; exact o1
    rw [List.pairwise_map] at o1' ⊢
    refine List.Pairwise.imp_of_mem (fun {x y} hx hy h => ?_) o1'
    obtain ⟨j, j1, j2⟩ := idx x hx
    obtain ⟨i, i1, i2⟩ := idx y hy
    have h' : SrtO.lexB (pairAt h2 (.ref y.1)) (pairAt h2 (.ref x.1)) = false := h
    rw [(pat j _ _ j1 j2).1, (pat i _ _ i1 i2).1] at h'
    exact h'
  -- behind the sort
  have kF : ∀ b o, b ≠ h'.objs.size → h2.get? b = some o → (sortedHeap h2 h'.objs.size (as.map Value.ref) out.toArray).get? b = some o := fun b o hb e => (PyProof.Rows.sortedHeap_old hb (Heap.lt_size e)).trans e
  have kS : ∀ b o, s1.heap.get? b = some o → (sortedHeap h2 h'.objs.size (as.map Value.ref) out.toArray).get? b = some o := fun b o e => kF b o (ne0 _ _ (hk b o (kv0 b o e))) (kb b o e)
  obtain ⟨eF, heF⟩ := PyProof.Rows.sortedHeap_at (vs := as.map Value.ref) (out := out.toArray) hob
  have I3 : Inv X pins σ H1 { s1 with heap := sortedHeap h2 h'.objs.size (as.map Value.ref) out.toArray, toks := tk } := I1.kept (t' := tk) kS
  have hn0 : H1 h'.objs.size = none := I1.hok.fresh (Nat.le_of_lt hlt1)
  have hlen : (zs.map fun z => V.ref z.1).length ≤ sizeLine := by
    have e := hperm.length_eq
    rw [List.length_map] at e
    rw [List.length_map, sizeLine_eq]
    omega
  have rv : Vals (zs.map fun z => V.ref z.1) out := by
    rw [← ez]
    exact vals_maps (fun z : Addr × Int × Int => V.ref z.1) (fun z => Value.ref z.1) zs fun _ _ => rfl
  have I4 : Inv X pins σ (upd H1 h'.objs.size (.lst (zs.map fun z => V.ref z.1))) { s1 with heap := sortedHeap h2 h'.objs.size (as.map Value.ref) out.toArray, toks := tk } :=
    I3.take (h' := sortedHeap h2 h'.objs.size (as.map Value.ref) out.toArray) (t' := tk) (fun b ob _ e => e) (I1.fpOk (Nat.le_of_lt hlt1) hn0) ⟨hlen, out, eF, rv, heF⟩
  obtain ⟨H2, I5, g, qt⟩ := takeT (P := fun b vs => ∃ (j : Nat) (p : Int × Int), as[j]? = some b ∧ ps[j]? = some p ∧ vs = [.int p.1, .int p.2]) I1 as _ I4 nd fun b hb => by
    obtain ⟨j, hj⟩ := List.mem_iff_getElem?.mp hb
    obtain ⟨p, t1, t2, hp, hg⟩ := pr j b hj
    have hbl : s1.heap.objs.size ≤ b := by
      have h9 : s1.heap.objs.size + 1 < b := by rw [← hsz]; exact hG.above b hb
      omega
    refine ⟨hbl, ?_, [.int p.1, .int p.2], ⟨j, p, hj, hp, rfl⟩, fun H3 => ⟨(by rw [sizeLine_eq]; show 2 ≤ 16777216; omega), [Value.int p.1 t1, Value.int p.2 t2], .cons ⟨t1, rfl⟩ (.cons ⟨t2, rfl⟩ .nil), ⟨_, kF _ _ (ne0 _ _ hg) (ka _ _ hg), rfl, 0, rfl⟩⟩⟩
    rw [upd_ne (ne0 _ _ hg)]
    exact I1.hok.fresh hbl
  have gr : ∀ b o, H1 b = some o → H2 b = some o := fun b o e => g b o (by rw [upd_ne (ne_of_none e hn0)]; exact e)
  have el : (zs.map fun z => V.ref z.1) = (zs.map (·.1)).map V.ref := by rw [List.map_map]; rfl
  refine ⟨.ref h'.objs.size, H2, I5, rfl, q (zs.map (·.2)) (zs.map (·.1)) h'.objs.size H2 hperm hsort gr hn0 (by rw [← el]; exact g _ _ upd_same) ?_⟩
  have key : ∀ l : List (Addr × Int × Int), (∀ z ∈ l, z ∈ zs) → Paired (fun (t : Addr) (q : Int × Int) => H2 t = some (.tup [.int q.1, .int q.2])) (l.map (·.1)) (l.map (·.2)) := by
    intro l
    induction l with
    | nil => intro _; exact .nil
    | cons z l ih =>
      intro hm
      refine .cons ?_ (ih fun y hy => hm y (List.mem_cons_of_mem _ hy))
      obtain ⟨i, i1, i2⟩ := idx z (hm z List.mem_cons_self)
      obtain ⟨vs, ⟨j, p, j1, j2, ev⟩, hH⟩ := qt z.1 (List.mem_of_getElem? i1)
      have eij : i = j := (List.getElem?_inj (List.getElem?_eq_some_iff.mp i1).1 nd).mp (i1.trans j1.symm)
      subst eij
      have ee : p = z.2 := Option.some.inj (j2.symm.trans i2)
      rw [ev, ee] at hH
      exact hH
  exact key zs fun z h => h
end L2.DX

/-! DL5d: sorted of pairs, sum, max, min. -/
namespace DL
open PySem L2 PySem.Spec PyProof.Rows
section
variable {X : Cx} {cx : Cls2}
theorem lex_lt {p q : Int × Int} (h : SrtO.lexB p q = false) : ¬ ltP2 p q := SrtO.lexB_no.mp h
theorem reps_pairs {K : Frag} {H : Hp} : ∀ {ps : List (Int × Int)} {vs : List V}, RepL K H (ps.map pairD) vs → Paired (fun (p : Int × Int) (v : V) => ∃ t, v = .ref t ∧ SqT K H t [.int p.1, .int p.2]) ps vs
  | [], _, e => by cases e; exact .nil
  | p :: ps, _, ⟨v, vr, e, r, rr⟩ => by
    subst e
    obtain ⟨t, us, rfl, h, ru⟩ := r
    obtain ⟨u1, r1, rfl, h1, h2⟩ := ru
    obtain ⟨u2, r2, rfl, h3, h4⟩ := h2
    cases h1; cases h3; cases h4
    exact .cons ⟨t, rfl, h⟩ (reps_pairs rr)
theorem call1_sortedP : CallR X (.builtin "sorted") (c1of X.K cx .sortedP) := by
  intro pins s σ H xs us Q I r w
  obtain ⟨v, rfl, S, a, hr, ra, w⟩ := w
  obtain ⟨c, w, hc⟩ := view_of hr ra w
  obtain ⟨ps, rfl, k⟩ := w
  obtain ⟨p, vs, rfl, hp, r1⟩ := hc
  have pr := reps_pairs r1
  obtain ⟨its, rv, hl, hz⟩ := I.list (SqL.of hp)
  obtain ⟨u, rfl, ru⟩ := vals1 r
  obtain rfl : u = Value.ref p := ru
  have isref : ∀ x ∈ vs, ∃ t, x = V.ref t := by
    intro x hx
    obtain ⟨j, hj⟩ := List.mem_iff_getElem?.mp hx
    have : ∀ {ps : List (Int × Int)} {vs : List V}, Paired (fun (p : Int × Int) (v : V) => ∃ t, v = .ref t ∧ SqT X.K H t [.int p.1, .int p.2]) ps vs → ∀ x ∈ vs, ∃ t, x = V.ref t := by
      intro ps vs h
      induction h with
      | nil => intro x hx; cases hx
      | cons h _ ih =>
        intro x hx
        rcases List.mem_cons.mp hx with rfl | hx
        · obtain ⟨t, e, _⟩ := h; exact ⟨t, e⟩
        · exact ih x hx
    exact this pr x hx
  obtain ⟨e1, e2⟩ := refs_back rv isref
  -- each value of the list
  have at_ : ∀ {ps : List (Int × Int)} {us : List Value}, Paired (fun (p : Int × Int) (v : V) => ∃ t, v = .ref t ∧ SqT X.K H t [.int p.1, .int p.2]) ps (us.map backV) → (∀ u ∈ us, ∃ t, u = Value.ref t) →
      ps = us.map (L2.DX.pairAt s.heap) ∧ ∀ u ∈ us, Srt.IsPair s.heap u (L2.DX.pairAt s.heap u).1 (L2.DX.pairAt s.heap u).2 ∧ RepV X.K H (pairD (L2.DX.pairAt s.heap u)) (backV u) := by
    intro ps us
    induction us generalizing ps with
    | nil => intro h _; cases h; exact ⟨rfl, fun u hu => by cases hu⟩
    | cons u us ih =>
      intro h hu
      cases h with
      | cons h t =>
        rename_i p ps
        obtain ⟨i1, i2⟩ := ih t fun u hu' => hu u (List.mem_cons_of_mem _ hu')
        obtain ⟨b, rfl⟩ := hu u List.mem_cons_self
        obtain ⟨b', eb, hq⟩ := h
        cases eb
        obtain ⟨its2, rv2, ⟨o, ho, hcl, n, hd⟩, _⟩ := I.tuple hq
        obtain ⟨u1, u2, rfl, ri, rj⟩ := vals2 rv2
        obtain ⟨t1, rfl⟩ := ri
        obtain ⟨t2, rfl⟩ := rj
        have ep : L2.DX.pairAt s.heap (.ref b) = p := by
          show (match s.heap.get? b with | some o => (match o.data with | .seq a _ => (match a.toList with | [.int x _, .int y _] => (x, y) | _ => (0, 0)) | _ => (0, 0)) | none => (0, 0)) = p
          rw [ho]
          show (match o.data with | .seq a _ => (match a.toList with | [.int x _, .int y _] => (x, y) | _ => (0, 0)) | _ => (0, 0)) = p
          rw [hd]
        have one : Srt.IsPair s.heap (.ref b) (L2.DX.pairAt s.heap (.ref b)).1 (L2.DX.pairAt s.heap (.ref b)).2 ∧ RepV X.K H (pairD (L2.DX.pairAt s.heap (.ref b))) (backV (.ref b)) := by
          rw [ep]
          exact ⟨⟨b, o, t1, t2, n, rfl, ho, hcl, hd⟩, b, [.int p.1, .int p.2], rfl, hq, .cons rfl (.cons rfl .nil)⟩
        refine ⟨by rw [List.map_cons, ep, i1], fun u hu' => ?_⟩
        rcases List.mem_cons.mp hu' with rfl | hu'
        · exact one
        · exact i2 u hu'
  rw [e1] at pr
  obtain ⟨ep, each⟩ := at_ pr e2
  refine SrtO.sorted_pairsO (k := L2.DX.pairAt s.heap) hl.isList (by rw [← rv.length]; exact hz) (fun v hv => (each v hv).1) fun h' d out h1 h2 kp hd hn => ?_
  have h3 : ∀ u ∈ out, ∃ a, u = Value.ref a := fun u hu => e2 u (h2.perm.mem_iff.mp hu)
  obtain ⟨n, hn⟩ := hn
  have hln : (out.map backV).length ≤ sizeLine := by
    rw [List.length_map, h2.perm.length_eq, ← rv.length]
    exact hz
  refine ⟨.ref d, upd H d (.lst (out.map backV)), I.laid (t' := s.toks) kp hd ⟨hln, out, n, vals_back h3, hn⟩, rfl, ?_⟩
  refine fin_vl (k (out.map (L2.DX.pairAt s.heap)) ?_ ?_) hr ?_ d (I.hok.fresh hd)
  · rw [ep]; exact h2.perm.map _
  · show List.Pairwise _ _
    rw [List.pairwise_map]
    exact h1.imp fun h => lex_lt h
  · have key : ∀ l : List Value, (∀ u ∈ l, u ∈ out) → RepL X.K H ((l.map (L2.DX.pairAt s.heap)).map pairD) (l.map backV) := by
      intro l
      induction l with
      | nil => intro _; exact .nil
      | cons u l ih => exact fun hm => .cons (each u (h2.perm.mem_iff.mp (hm u List.mem_cons_self))).2 (ih fun x hx => hm x (List.mem_cons_of_mem _ hx))
    exact key out fun u hu => hu
theorem call1_sum (hcalm : X.calm = true) : CallR X (.builtin "sum") (c1of X.K cx .sum) := by
  intro pins s σ H xs us Q I r w
  obtain ⟨v, rfl, S, a, hr, ra, w⟩ := w
  obtain ⟨c, w, hc⟩ := view_of hr ra w
  obtain ⟨ns, rfl, k⟩ := w
  obtain ⟨p, vs, rfl, hp, r1⟩ := hc
  have e := r1.ints
  subst e
  exact cr_sum hcalm pins s σ H _ us Q I r ⟨p, ns, rfl, SqL.of hp, fin_int k hr⟩
theorem call1_max (hcalm : X.calm = true) : CallR X (.builtin "max") (c1of X.K cx .maxl) := by
  intro pins s σ H xs us Q I r w
  obtain ⟨v, rfl, S, a, hr, ra, w⟩ := w
  obtain ⟨c, w, hc⟩ := view_of hr ra w
  obtain ⟨ns, rfl, h0, k⟩ := w
  obtain ⟨p, vs, rfl, hp, r1⟩ := hc
  have e := r1.ints
  subst e
  exact cr_max hcalm pins s σ H _ us Q I r ⟨p, ns, rfl, SqL.of hp, h0, fun m h1 h2 => fin_int (k m h1 h2) hr⟩
theorem call1_min (hcalm : X.calm = true) : CallR X (.builtin "min") (c1of X.K cx .minl) := by
  intro pins s σ H xs us Q I r w
  obtain ⟨v, rfl, S, a, hr, ra, w⟩ := w
  obtain ⟨c, w, hc⟩ := view_of hr ra w
  obtain ⟨ns, rfl, h0, k⟩ := w
  obtain ⟨p, vs, rfl, hp, r1⟩ := hc
  have e := r1.ints
  subst e
  exact cr_min hcalm pins s σ H _ us Q I r ⟨p, ns, rfl, SqL.of hp, h0, fun m h1 h2 => fin_int (k m h1 h2) hr⟩
end
end DL

/-! DL5n: tuples of ints sorted; dicts of tuples as lists, their lengths, sorted. -/
namespace DL
open PySem L2 PySem.Spec PyProof.Rows
/-! ### the order -/
theorem lexN_asym : ∀ {p q : List Int}, lexN p q = true → lexN q p = false
  | [], [], h => by cases h
  | [], _ :: _, _ => rfl
  | _ :: _, [], h => by cases h
  | x :: p, y :: q, h => by
    unfold lexN at h ⊢
    by_cases e : x = y
    · rw [if_pos e] at h
      rw [if_pos e.symm]
      exact lexN_asym h
    · rw [if_neg e] at h
      rw [if_neg fun z => e z.symm]
      have := of_decide_eq_true h
      exact decide_eq_false (by omega)
theorem lexN_neg : ∀ {p q r : List Int}, lexN q p = false → lexN r q = false → lexN r p = false
  | _, _, [], h1, h2 => by
    rename_i p q
    cases q with
    | nil => exact h1
    | cons y q => cases h2
  | [], _, _ :: _, h1, h2 => rfl
  | x :: p, q, z :: r, h1, h2 => by
    cases q with
    | nil => cases h1
    | cons y q =>
      unfold lexN at h1 h2 ⊢
      by_cases e1 : y = x
      · rw [if_pos e1] at h1
        by_cases e2 : z = y
        · rw [if_pos e2] at h2
          rw [if_pos (e2.trans e1)]
          exact lexN_neg h1 h2
        · rw [if_neg e2] at h2
          rw [if_neg fun e => e2 (e.trans e1.symm)]
          have := of_decide_eq_false h2
          exact decide_eq_false (by omega)
      · rw [if_neg e1] at h1
        have h1 := of_decide_eq_false h1
        by_cases e2 : z = y
        · rw [if_neg (by omega)]
          exact decide_eq_false (by omega)
        · rw [if_neg e2] at h2
          have h2 := of_decide_eq_false h2
          rw [if_neg (by omega)]
          exact decide_eq_false (by omega)
theorem lexN_cons (x y : Int) (p q : List Int) : lexN (x :: p) (y :: q) = if x = y then lexN p q else decide (x < y) := rfl
theorem lexN_self : ∀ (p : List Int), lexN p p = false
  | [] => rfl
  | x :: p => by unfold lexN; rw [if_pos rfl]; exact lexN_self p
theorem swo_lexN (k : Value → List Int) : SrtO.Swo fun v u => lexN (k v) (k u) := ⟨fun x y h => lexN_asym h, fun x y z h1 h2 => lexN_neg h1 h2⟩
/-! ### tuples of ints in the heap -/
abbrev IntsP : List Int → List Value → Prop := Paired fun (i : Int) (u : Value) => ∃ t, u = Value.int i t
def IsInts (h : Heap) (v : Value) (p : List Int) : Prop := ∃ a o its n, v = .ref a ∧ h.get? a = some o ∧ o.cls = .type "tuple" ∧ o.data = .seq its n ∧ IntsP p its.toList
theorem IsInts.keeps {h h' : Heap} {v : Value} {p : List Int} (x : IsInts h v p) (k : ∀ b o, h.get? b = some o → o.cls = .type "tuple" → h'.get? b = some o) : IsInts h' v p := by
  obtain ⟨a, o, its, n, e, ho, hc, hd, r⟩ := x
  exact ⟨a, o, its, n, e, k _ _ ho hc, hc, hd, r⟩
section
variable {prog : Program} {w : World} {A : Around} {s : Shared} {E : Value → Shared → Prop}
theorem kat_ints {s : Shared} (fin : Bool) : ∀ (p q : List Int) (us ws : List Value) (i : Nat) (r : Bool), IntsP p us → IntsP q ws → fin = decide (p.length < q.length) → r = lexN p q →
    PySem.W.KatLex prog w A true fin (fun c s' => s' = s ∧ c = r) (us.zip ws) i s
  | [], [], _, _, i, r, .nil, .nil, e, er => PySem.W.kat_nil ⟨rfl, by rw [e, er]; rfl⟩
  | [], y :: q, _, _, i, r, .nil, .cons _ _, e, er => PySem.W.kat_nil ⟨rfl, by rw [e, er]; exact decide_eq_true (by simp)⟩
  | x :: p, [], _, _, i, r, .cons _ _, .nil, e, er => PySem.W.kat_nil ⟨rfl, by rw [e, er]; exact decide_eq_false (by simp)⟩
  | x :: p, y :: q, u :: us, v :: ws, i, r, .cons h1 t1, .cons h2 t2, e, er => by
    obtain ⟨t, rfl⟩ := h1
    obtain ⟨t', rfl⟩ := h2
    show PySem.W.KatLex prog w A true fin _ ((.int x t, .int y t') :: us.zip ws) i s
    refine PySem.W.kat_cons (SeqAt.EqAt.int_int x t y t' prog w _ _ ?_)
    refine PySem.W.kat_go (fun e1 => ?_) (fun e1 => ?_)
    · have ex : x = y := by simpa using e1
      refine PySem.W.kat_yes (kat_ints fin p q us ws (i + 1) r t1 t2 (by rw [e]; simp) ?_)
      rw [er, lexN_cons, if_pos ex]
    · have ex : ¬ x = y := by simpa using e1
      have e3 : r = decide (x < y) := by rw [er, lexN_cons, if_neg ex]
      refine PySem.W.kat_no ?_
      cases i with
      | zero => exact PyProof.Rows.oneLt_int ⟨rfl, e3.symm⟩
      | succ i => exact PySem.W.kat_one _ _ (PyProof.Rows.lt_int ⟨rfl, e3.symm⟩)
theorem ints_cmp {vs : List Value} {k : Value → List Int} (hp : ∀ v ∈ vs, IsInts s.heap v (k v)) : SrtO.Cmp prog w A s (tuples' true) (fun p => p.1 ∈ vs) (SrtO.lt2 fun v u => lexN (k v) (k u)) := by
  intro p q hm hm'
  have h1 := hp _ hm
  have h2 := hp _ hm'
  show wpAny (model prog w) A (keyLt' (tuples' true) p.1 q.1) (fun r s' => s' = s ∧ r = lexN (k p.1) (k q.1)) (fun _ _ => False) s
  obtain ⟨a, o, its, n, e, ho, hc, hd, r1⟩ := h1
  obtain ⟨a', o', its', n', e', ho', hc', hd', r2⟩ := h2
  have l1 := Paired.length r1
  have l2 := Paired.length r2
  generalize k p.1 = x at r1 l1 ⊢
  generalize k q.1 = y at r2 l2 ⊢
  rw [e, e']
  refine PySem.W.kat_lt ho hd ho' hd' ?_
  exact kat_ints _ x y _ _ 0 _ r1 r2 (by rw [l1, l2, Array.length_toList, Array.length_toList]) rfl
theorem firsts_ints {h : Heap} : ∀ {vs : List Value} {k : Value → List Int}, (∀ v ∈ vs, IsInts h v (k v) ∧ k v ≠ []) → ∃ fs : List Value, PySem.W.KatTups h vs fs ∧ fs.length = vs.length ∧ ∀ f ∈ fs, ∃ x t, f = Value.int x t
  | [], _, _ => ⟨[], PySem.W.KatTups.nil, rfl, fun _ hm => by simp at hm⟩
  | v :: vs, k, hp => by
    obtain ⟨fs, h1, h2, h3⟩ := firsts_ints (vs := vs) (k := k) fun v' hm => hp v' (List.mem_cons_of_mem _ hm)
    obtain ⟨⟨a, o, its, n, e, ho, hc, hd, r⟩, hne⟩ := hp v (List.mem_cons_self ..)
    subst e
    cases hk : k (.ref a) with
    | nil => exact (hne hk).elim
    | cons x p =>
      rw [hk] at r
      obtain ⟨l, rfl⟩ : ∃ l : List Value, its = l.toArray := ⟨its.toList, by simp⟩
      rw [List.toList_toArray] at r
      cases r with
      | cons h t =>
        obtain ⟨tk, rfl⟩ := h
        refine ⟨.int x tk :: fs, PySem.W.KatTups.cons ho hc hd (by simp) h1, by rw [List.length_cons, List.length_cons, h2], fun f hm => ?_⟩
        rcases List.mem_cons.mp hm with rfl | hm
        · exact ⟨x, tk, rfl⟩
        · exact h3 f hm
theorem ints_sortable {a : Addr} {vs : List Value} {k : Value → List Int} (h0 : 0 < vs.length) (hp : ∀ v ∈ vs, IsInts s.heap v (k v) ∧ k v ≠ []) (ha : ∀ o, s.heap.get? a = some o → o.cls ≠ .type "tuple") : SrtO.SortableO prog w A s a vs fun v u => lexN (k v) (k u) := by
  intro h' keep
  have hp' : ∀ v ∈ vs, IsInts h' v (k v) := fun v hm => (hp v hm).1.keeps fun b o e c => keep b o (fun z => by subst z; exact ha o e c) e
  obtain ⟨fs, h1, h2, h3⟩ := firsts_ints (k := k) fun v hm => ⟨hp' v hm, (hp v hm).2⟩
  refine ⟨tuples' true, fun Q E hq => ?_, ints_cmp hp'⟩
  refine PySem.W.kat_kind (T := .type "int") h1 (by omega) (fun f hm => ?_) (by rfl) ?_
  · obtain ⟨x, t, rfl⟩ := h3 f hm
    exact PySem.W.Looks.now
  · have e : (Value.type "int" != Value.type "tuple") = true := by first | decide +kernel | rfl | decide
    rw [e]
    exact hq
theorem sorted_ints {l : Addr} {vs : List Value} {k : Value → List Int} {Q : Value → Shared → Prop} (hl : s.heap.IsList l vs.toArray) (hz : vs.length ≤ sizeLine) (hp : ∀ v ∈ vs, IsInts s.heap v (k v) ∧ k v ≠ [])
    (h : ∀ (h' : Heap) (d : Addr) (out : List Value), SrtO.Srtd (fun v u => lexN (k v) (k u)) out → SrtO.Stb (fun v u => lexN (k v) (k u)) out vs → (∀ b o, s.heap.get? b = some o → h'.get? b = some o) → s.heap.objs.size ≤ d → (∃ n, h'.get? d = some (seqObj "list" out.toArray n)) → Q (.ref d) { s with heap := h' }) :
    wpAny (model prog w) A (call (.builtin "sorted") [.ref l]) Q E s := by
  refine SrtO.sorted_ord (swo_lexN k) hl hz (fun h2 h₁ a ha kk => ?_) fun out hs hb => ?_
  · refine ints_sortable (s := { s with heap := h₁ }) (by omega) (fun v hm => ⟨(hp v hm).1.keeps fun b o e _ => (kk b o e).2, (hp v hm).2⟩) fun o e => ?_
    have e' : some o = some (seqObj "list" vs.toArray 0) := e.symm.trans ha
    cases e'
    intro c
    exact absurd (Value.type.inj c) (by decide)
  · exact h _ _ out hs hb (fun b o e => PyProof.Rows.sortedAll_old e) (Nat.le_succ _) (PyProof.Rows.sortedAll_at s.heap vs out.toArray)
end
/-! ### the calls -/
section
variable {X : Cx} {cx : Cls2}
def intsAt (h : Heap) : Value → List Int
  | .ref b => match h.get? b with
    | some o => match o.data with
      | .seq a _ => a.toList.map fun u => match u with | .int x _ => x | _ => 0
      | _ => []
    | none => []
  | _ => []
theorem ints_vals : ∀ {p : List Int} {us : List Value}, Vals (p.map V.int) us → IntsP p us ∧ us.map (fun u => match u with | .int x _ => x | _ => 0) = p
  | [], _, .nil => ⟨.nil, rfl⟩
  | x :: p, u :: us, .cons h t => by
    obtain ⟨i1, i2⟩ := ints_vals (p := p) t
    obtain ⟨tk, rfl⟩ := h
    exact ⟨.cons ⟨tk, rfl⟩ i1, by rw [List.map_cons, i2]⟩
/-- a value that is a tuple of ints -/
theorem ints_one {pins : List (Addr × Obj)} {σ : L2.St} {H : Hp} {s : Shared} (I : Inv X pins σ H s) {p : List Int} {b : Addr} (r : RepV X.K H (tupI p) (.ref b)) : intsAt s.heap (.ref b) = p ∧ IsInts s.heap (.ref b) p := by
  obtain ⟨t, vs, e, hq, rr⟩ := r
  cases e
  have e := rr.ints
  subst e
  obtain ⟨its, rv, ⟨o, ho, hc, n, hd⟩, _⟩ := I.tuple hq
  obtain ⟨h1, h2⟩ := ints_vals rv
  refine ⟨?_, ⟨b, o, its.toArray, n, rfl, ho, hc, hd, h1⟩⟩
  show (match s.heap.get? b with | some o => (match o.data with | .seq a _ => a.toList.map (fun u => match u with | .int x _ => x | _ => 0) | _ => []) | none => []) = p
  rw [ho]
  show (match o.data with | .seq a _ => a.toList.map (fun u => match u with | .int x _ => x | _ => 0) | _ => []) = p
  rw [hd]
  exact h2
/-- the values of a list of tuples of ints -/
theorem ints_each {pins : List (Addr × Obj)} {σ : L2.St} {H : Hp} {s : Shared} (I : Inv X pins σ H s) : ∀ {ps : List (List Int)} {us : List Value}, Paired (fun (p : List Int) (u : Value) => ∃ b, u = .ref b ∧ RepV X.K H (tupI p) (.ref b)) ps us →
    ps = us.map (intsAt s.heap) ∧ ∀ u ∈ us, ∃ b, u = .ref b ∧ IsInts s.heap u (intsAt s.heap u) ∧ RepV X.K H (tupI (intsAt s.heap u)) (.ref b)
  | [], _, .nil => ⟨rfl, fun u h => by cases h⟩
  | p :: ps, u :: us, .cons ⟨b, e, r⟩ t => by
    subst e
    obtain ⟨i1, i2⟩ := ints_each I t
    obtain ⟨h1, h2⟩ := ints_one I r
    refine ⟨by rw [List.map_cons, h1, ← i1], fun u hu => ?_⟩
    rcases List.mem_cons.mp hu with rfl | hu
    · rw [h1]; exact ⟨b, rfl, h2, r⟩
    · exact i2 u hu
theorem ints_rep {K : Frag} {H : Hp} {f : Value → List Int} : ∀ (l : List Value), (∀ u ∈ l, ∃ b, u = .ref b ∧ RepV K H (tupI (f u)) (.ref b)) → RepL K H ((l.map f).map tupI) (l.map backV)
  | [], _ => .nil
  | u :: l, h => by
    obtain ⟨b, e, r⟩ := h u List.mem_cons_self
    subst e
    exact .cons r (ints_rep l fun x hx => h x (List.mem_cons_of_mem _ hx))
theorem rep_refs {K : Frag} {H : Hp} : ∀ {ps : List (List Int)} {vs : List V} {us : List Value}, RepL K H (ps.map tupI) vs → Vals vs us → Paired (fun (p : List Int) (u : Value) => ∃ b, u = .ref b ∧ RepV K H (tupI p) (.ref b)) ps us
  | [], _, us, e, r => by cases e; cases r; exact .nil
  | p :: ps, _, us, ⟨v, vr, e, r, rr⟩, rv => by
    subst e
    cases rv with
    | cons h t =>
      obtain ⟨b, vs, rfl, h1, h2⟩ := r
      cases h
      exact .cons ⟨b, rfl, b, vs, rfl, h1, h2⟩ (rep_refs rr t)
theorem call1_sortedN : CallR X (.builtin "sorted") (c1of X.K cx .sortedN) := by
  intro pins s σ H xs us Q I r w
  obtain ⟨v, rfl, S, a, hr, ra, w⟩ := w
  obtain ⟨c, w, hc⟩ := view_of hr ra w
  obtain ⟨ps, rfl, hne, k⟩ := w
  obtain ⟨p, vs, rfl, hp, r1⟩ := hc
  obtain ⟨its, rv, hl, hz⟩ := I.list (SqL.of hp)
  obtain ⟨u, rfl, ru⟩ := vals1 r
  obtain rfl : u = Value.ref p := ru
  obtain ⟨ep, each⟩ := ints_each I (rep_refs r1 rv)
  refine sorted_ints (k := intsAt s.heap) hl.isList (by rw [← rv.length]; exact hz) (fun v hv => ?_) fun h' d out h1 h2 kp hd hn => ?_
  · obtain ⟨b, _, h, _⟩ := each v hv
    exact ⟨h, hne _ (by rw [ep]; exact List.mem_map_of_mem hv)⟩
  have h3 : ∀ u ∈ out, ∃ a, u = Value.ref a := fun u hu => let ⟨b, e, _⟩ := each u (h2.perm.mem_iff.mp hu); ⟨b, e⟩
  obtain ⟨n, hn⟩ := hn
  have hln : (out.map backV).length ≤ sizeLine := by
    rw [List.length_map, h2.perm.length_eq, ← rv.length]
    exact hz
  refine ⟨.ref d, upd H d (.lst (out.map backV)), I.laid (t' := s.toks) kp hd ⟨hln, out, n, vals_back h3, hn⟩, rfl, ?_⟩
  refine fin_vl (k (out.map (intsAt s.heap)) ?_ ?_) hr (ints_rep out fun u hu => let ⟨b, e, _, h⟩ := each u (h2.perm.mem_iff.mp hu); ⟨b, e, h⟩) d (I.hok.fresh hd)
  · rw [ep]; exact h2.perm.map _
  · show List.Pairwise _ _
    rw [List.pairwise_map]
    exact h1
theorem dn_keys {K : Frag} {H : Hp} : ∀ {kvs : List (D × D)} {xs : List NE}, DnR K H kvs xs → RepL K H (kvs.map Prod.fst) (xs.map fun x => V.ref x.2.1)
  | _, _, .nil => .nil
  | _, _, .cons h t => .cons h.2.2.1 (dn_keys t)
theorem items_keys {acc : Array Value} {es : Array DictEntry} {w : World} {xs : List NE} (he : es.toList = xs.map (entN w)) (it : ItemsOf (fun i v => ∃ en : DictEntry, es[i]? = some en ∧ v = en.key) acc es.size) : acc.toList = xs.map fun x => Value.ref x.2.1 := by
  have les : es.size = xs.length := by rw [← Array.length_toList, he, List.length_map]
  have hl : acc.toList.length = xs.length := by rw [Array.length_toList, it.1]; exact les
  apply List.ext_getElem?
  intro j
  rw [List.getElem?_map]
  cases hj : acc.toList[j]? with
  | none =>
    have h1 := List.getElem?_eq_none_iff.mp hj
    rw [List.getElem?_eq_none (by omega)]
    rfl
  | some v =>
    obtain ⟨en, hen, hv⟩ := it.2 j v (by rw [← Array.getElem?_toList]; exact hj)
    rw [← Array.getElem?_toList, he, List.getElem?_map] at hen
    cases hb : xs[j]? with
    | none => rw [hb] at hen; cases hen
    | some x =>
      rw [hb] at hen
      cases hen
      rw [hv]; rfl
theorem key_rep {K : Frag} {H : Hp} {d : D} (h : keyD d = true) : RepV K H d (kV (keyK d)) := by
  cases d <;> first | rfl | cases h
theorem dk_keys {K : Frag} {H : Hp} : ∀ {kvs : List (D × D)} {ks : List (Key × V)}, DicR K H kvs ks → RepL K H (kvs.map Prod.fst) (ks.map fun kv => kV kv.1)
  | _, _, .nil => .nil
  | _, _, .cons h t => .cons (by
      obtain ⟨h1, h2⟩ := KeyR.of h.1
      show RepV K H _ (kV _)
      rw [h2]
      exact key_rep h1) (dk_keys t)
theorem call1_listK (hcalm : X.calm = true) : CallR X (.type "list") (c1of X.K cx .listK) := by
  intro pins s σ H xs us Q I r w
  obtain ⟨v, rfl, S, a, hr, ra, w⟩ := w
  obtain ⟨c, w, hc⟩ := view_of hr ra w
  obtain ⟨kvs, rfl, k⟩ := w
  obtain ⟨p, ks, rfl, hp, rd⟩ := hc
  exact call_list_dK hcalm pins s σ H _ us Q I r ⟨p, ks, rfl, hp, fin_vl k hr (dk_keys rd)⟩
theorem call1_listDn (hcalm : X.calm = true) (hw : cx.w = X.w) : CallR X (.type "list") (c1of X.K cx .listDn) := by
  intro pins s σ H xs us Q I r w
  obtain ⟨v, rfl, S, a, hr, ra, w⟩ := w
  obtain ⟨c, w, hc⟩ := view_of hr ra w
  obtain ⟨kvs, rfl, k⟩ := w
  obtain ⟨d, xs, rfl, hd, rd⟩ := hc
  rw [hw] at hd
  obtain ⟨u, rfl, ru⟩ := vals1 r
  obtain rfl : u = Value.ref d := ru
  obtain ⟨o, es, ep, ho, hx, hdt, he⟩ := dn_obj I (.inl hd)
  have les : es.size = xs.length := by rw [← Array.length_toList, he, List.length_map]
  refine PySem.W.kdl_call (L2.kdl_raw rd.m hx hdt) (I.ok.hd hcalm) ho (by rw [les]; exact rd.z) fun h' tk acc' c' kp e it => ?_
  have ea := items_keys he it
  have rv : Vals (xs.map fun x => V.ref x.2.1) acc'.toList := by rw [ea]; exact vals_maps (fun x : NE => V.ref x.2.1) (fun x => Value.ref x.2.1) xs fun _ _ => rfl
  refine ⟨.ref s.heap.objs.size, _, I.laid (t' := tk) (o := .lst (xs.map fun x => V.ref x.2.1)) kp (Nat.le_refl _) ⟨by rw [List.length_map]; exact rd.z, acc'.toList, c', rv, by rw [Array.toArray_toList]; exact e⟩, rfl, ?_⟩
  exact fin_vl k hr (dn_keys rd.r) _ (I.hok.fresh (Nat.le_refl _))
theorem call1_lenDn (hw : cx.w = X.w) : CallR X (.builtin "len") (c1of X.K cx .lenDn) := by
  intro pins s σ H xs us Q I r w
  obtain ⟨v, rfl, S, a, hr, ra, w⟩ := w
  obtain ⟨c, w, hc⟩ := view_of hr ra w
  obtain ⟨kvs, rfl, k⟩ := w
  obtain ⟨d, xs, rfl, hd, rd⟩ := hc
  rw [hw] at hd
  obtain ⟨u, rfl, ru⟩ := vals1 r
  obtain rfl : u = Value.ref d := ru
  have hl := rd.r.length
  have hz := rd.z
  refine call_len_dictH rd.m (dn_of I (.inl hd) rd) (by rw [sizeLine_eq] at hz; omega) ?_
  rw [← hl]
  exact ⟨.int ((kvs.length : Nat) : Int), H, I.tok _, ⟨_, rfl⟩, fin_int k hr⟩
theorem call1_sortedDn (hcalm : X.calm = true) (hw : cx.w = X.w) : CallR X (.builtin "sorted") (c1of X.K cx .sortedDn) := by
  intro pins s σ H xs us Q I r w
  obtain ⟨v, rfl, S, a, hr, ra, w⟩ := w
  obtain ⟨c, w, hc⟩ := view_of hr ra w
  obtain ⟨kvs, ps, rfl, hks, hne, k⟩ := w
  obtain ⟨d, xs, rfl, hd, rd⟩ := hc
  rw [hw] at hd
  obtain ⟨u, rfl, ru⟩ := vals1 r
  obtain rfl : u = Value.ref d := ru
  obtain ⟨o, es, ep, ho, hx, hdt, he⟩ := dn_obj I (.inl hd)
  have les : es.size = xs.length := by rw [← Array.length_toList, he, List.length_map]
  have rk := dn_keys rd.r
  rw [hks] at rk
  refine Calls.call_function_entry PyProof.Rows.kind_sorted PyProof.Rows.plain_sorted PyProof.Rows.entry_sorted (PyProof.Rows.args_sorted1 _) ?_
  unfold Builtin.«sorted»
  refine wpAny_bind (m := checkCount "sorted" 1 1 _) (wpAny_pure ?_)
  refine wpAny_bind (PySem.W.kdu_collect (A := X.A.in1) (L2.kdl_raw rd.m hx hdt) (I.ok.hd hcalm) ho (by rw [les]; exact rd.z) fun h' tk acc hk hacc => ?_)
  have ea := items_keys he hacc
  have I1 : Inv X pins σ H { s with heap := h', toks := tk } := I.kept hk
  have rv : Vals (xs.map fun x => V.ref x.2.1) acc.toList := by rw [ea]; exact vals_maps (fun x : NE => V.ref x.2.1) (fun x => Value.ref x.2.1) xs fun _ _ => rfl
  have hal : acc.toList.length ≤ sizeLine := by rw [ea, List.length_map]; exact rd.z
  obtain ⟨ep', each⟩ := ints_each I1 (rep_refs rk rv)
  refine wpAny_bind (wpAny_newList ?_ hal)
  have hoL : (h'.push (seqObj "list" acc.toList.toArray 0)).get? h'.objs.size = some (seqObj "list" acc.toList.toArray 0) := Heap.get?_push_size _ rfl
  show wpAny _ _ _ _ _ { s with heap := h'.push (seqObj "list" acc.toList.toArray 0), toks := tk }
  refine wpAny_bind (wpAny_holding (wpAny_call_entry PyProof.Rows.slot_list_sort ⟨_, hoL, rfl⟩ PyProof.Rows.entry_list_sort
    (SrtO.list_sort_ord (s := { s with heap := h'.push (seqObj "list" acc.toList.toArray 0), toks := tk }) (swo_lexN (intsAt h')) hoL hal (fun h2 => ints_sortable (by omega) (fun v hv => ?_) fun o e => ?_) fun out h1 h2 => ⟨_, rfl, ?_⟩) (PyProof.Rows.args_list_sort _)))
  · obtain ⟨b, _, h, _⟩ := each v hv
    exact ⟨h.keeps fun b o e _ => Heap.get?_push_of_some _ e, hne _ (by rw [ep']; exact List.mem_map_of_mem hv)⟩
  · have e' : some o = some (seqObj "list" acc.toList.toArray 0) := e.symm.trans hoL
    cases e'
    intro c
    exact absurd (Value.type.inj c) (by decide)
  obtain ⟨e', he'⟩ := PyProof.Rows.sortedHeap_at (vs := acc.toList) (out := out.toArray) hoL
  have h3 : ∀ u ∈ out, ∃ a, u = Value.ref a := fun u hu => let ⟨b, e, _⟩ := each u (h2.perm.mem_iff.mp hu); ⟨b, e⟩
  have hlen : (out.map backV).length ≤ sizeLine := by
    rw [List.length_map, h2.perm.length_eq]
    exact hal
  refine wpAny_pure ⟨_, rfl, .ref h'.objs.size, upd H h'.objs.size (.lst (out.map backV)), I1.laid (t' := tk) (fun b u e => ?_) (Nat.le_refl _)
    (show ObjOk X.prog X.w _ _ _ (.lst (out.map backV)) from ⟨hlen, out, e', vals_back h3, he'⟩), rfl, ?_⟩
  · have hb : b < h'.objs.size := Heap.lt_size e
    rw [PyProof.Rows.sortedHeap_old (Nat.ne_of_lt hb) (by rw [size_push']; exact Nat.lt_succ_of_lt hb)]
    exact Heap.get?_push_of_some _ e
  · refine fin_vl (k (out.map (intsAt h')) ?_ ?_) hr (ints_rep out fun u hu => let ⟨b, e, _, h⟩ := each u (h2.perm.mem_iff.mp hu); ⟨b, e, h⟩) _ (I1.hok.fresh (Nat.le_refl _))
    · rw [ep']; exact h2.perm.map _
    · show List.Pairwise _ _
      rw [List.pairwise_map]
      exact h1
end
end DL

/-! DL6: the meanings as readings of the hand layer; expressions are sound, case by case. -/
namespace DL
open PySem L2 PySem.Spec PyProof.Rows
def RelX (K : Frag) (S : Hs) (H : Hp) (σ2 : Sl) (σ : L2.St) : Prop := σ2.length = σ.length ∧ ∀ (i : Nat) (x : Vx), σ2[i]? = some (some x) → ∃ v, σ[i]? = some (some v) ∧ RepX K H S x v
abbrev WE := Sl → Hs → LK2 → Prop
abbrev WI := Sl → Hs → (It2 → Hs → Prop) → Prop
/-- what is wanted of an expression's value -/
def kE (K : Frag) (cx : Cls2) (S : Hs) (H : Hp) (Q : VK) : LK2 := fun xs S' => ∃ x, xs = [x] ∧ KVof K cx S H Q x S'
def liftE (K : Frag) (cx : Cls2) (w : WE) : TE := fun σ H Q => ∃ S σ2, Rel K cx S H ∧ RelX K S H σ2 σ ∧ w σ2 S (kE K cx S H Q)
/-- .. of arguments -/
def kA (K : Frag) (cx : Cls2) (S : Hs) (H : Hp) (Q : List V → Hp → Prop) : LK2 := fun xs S' => ∀ vs H', Rel K cx S' H' → Keep S S' H H' → Paired (RepX K H' S') xs vs → Q vs H'
def liftA (K : Frag) (cx : Cls2) (w : WE) : TA := fun σ H Q => ∃ S σ2, Rel K cx S H ∧ RelX K S H σ2 σ ∧ w σ2 S (kA K cx S H Q)
/-- .. of a test -/
def kT (K : Frag) (cx : Cls2) (S : Hs) (H : Hp) (Q : Bool → Hp → Prop) : LK2 := one1 (tstK fun b S' => ∀ H', Rel K cx S' H' → Keep S S' H H' → Q b H')
def liftT (K : Frag) (cx : Cls2) (w : WE) : TT := fun σ H Q => ∃ S σ2, Rel K cx S H ∧ RelX K S H σ2 σ ∧ w σ2 S (kT K cx S H Q)
section
variable {K : Frag} {cx : Cls2} {S S' S1 : Hs} {H H' H1 H0 : Hp} {Q : VK} {σ2 : Sl} {σ : L2.St}
theorem RepX.keep (k : Keep S S' H H') (hr : Rel K cx S H) {x : Vx} {v : V} (r : RepX K H S x v) : RepX K H' S' x v := by
  have t := k.tups hr
  cases x with
  | d y => exact RepV.keep t _ _ r
  | vl ds => obtain ⟨a, vs, e, h, n, r⟩ := r; exact ⟨a, vs, e, (k.kp _ _ h n).1, (k.kp _ _ h n).2, r.keep t⟩
  | bw ds => obtain ⟨a, vs, e, h, n, r⟩ := r; exact ⟨a, vs, e, (k.kp _ _ h n).1, (k.kp _ _ h n).2, r.keep t⟩
  | fz ds =>
    obtain ⟨a, vs, e, h, r⟩ := r
    refine ⟨a, vs, e, ?_, r.keep t⟩
    rcases h with ⟨o, h, n⟩ | h
    · exact .inl ⟨o, (k.kp _ _ h n).1, (k.kp _ _ h n).2⟩
    · exact .inr h
  | vd ds => obtain ⟨a, vs, e, h, n, r⟩ := r; exact ⟨a, vs, e, (k.kp _ _ h n).1, (k.kp _ _ h n).2, r.keep t⟩
  | bd ds => obtain ⟨a, vs, e, h, n, r⟩ := r; exact ⟨a, vs, e, (k.kp _ _ h n).1, (k.kp _ _ h n).2, r.keep t⟩
  | st ds => exact r.elim
theorem RelX.keep (k : Keep S S' H H') (hr : Rel K cx S H) (r : RelX K S H σ2 σ) : RelX K S' H' σ2 σ := ⟨r.1, fun i x e => let ⟨v, h1, h2⟩ := r.2 i x e; ⟨v, h1, h2.keep k hr⟩⟩
theorem RepR.of (k : Keep S S1 H H1) {x : Vx} {v : V} (r : RepR K H1 H' S' x v) : RepR K H H' S' x v := ⟨r.1, fun e => let ⟨a, h1, h2⟩ := r.2 e; ⟨a, h1, k.up a h2⟩⟩
theorem KVof.of (k : Keep S S1 H H1) {z : Vx} (q : KVof K cx S H Q z S') : KVof K cx S1 H1 Q z S' := fun v H' hr k' r => q v H' hr (k.trans k') (r.of k)
theorem one1_of {P : VK2} {xs : List Vx} (h : one1 P xs S) : ∃ x, xs = [x] ∧ P x S := by
  unfold one1 at h
  split at h
  · exact ⟨_, rfl, h⟩
  · exact h.elim
theorem tstK_of {P : Bool → Hs → Prop} {x : Vx} (h : tstK P x S) : ∃ b, x = .d (.bl b) ∧ P b S := by
  unfold tstK at h
  split at h
  · exact ⟨_, rfl, h⟩
  · exact h.elim
/-- lent -/
theorem RepX.bor {x : Vx} {v : V} (r : RepX K H S x v) : RepX K H S (DL.bor x) v := by
  cases x <;> exact r
theorem bor_own (x : Vx) : own (DL.bor x) = false := by cases x <;> rfl
end

/-! ### the step: an expression, then what follows -/
section
variable {T : Tbl} {c : Nat → List Vx → Hs → VK2 → Prop} {K : Frag} {cx : Cls2} {S : Hs} {H : Hp} {σ2 : Sl} {σ : L2.St}
theorem stepE (hc : CalMono c) {r : R} {P : VK2} {Q : VK} (hr : Rel K cx S H) (rs : RelX K S H σ2 σ) (w : wpE T c r σ2 S (one1 P))
    (h : ∀ x S1 v H1, Rel K cx S1 H1 → Keep S S1 H H1 → RelX K S1 H1 σ2 σ → RepR K H H1 S1 x v → P x S1 → Q v H1) : liftE K cx (wpE T c r) σ H Q :=
  ⟨S, σ2, hr, rs, wpE_mono hc w fun xs S1 q => let ⟨x, e, p⟩ := one1_of q; ⟨x, e, fun v H1 hr1 k r1 => h x S1 v H1 hr1 k (rs.keep k hr) r1 p⟩⟩
theorem stepA (hc : CalMono c) {r : R} {P : LK2} {Q : List V → Hp → Prop} (hr : Rel K cx S H) (rs : RelX K S H σ2 σ) (w : wpE T c r σ2 S P)
    (h : ∀ xs S1 vs H1, Rel K cx S1 H1 → Keep S S1 H H1 → RelX K S1 H1 σ2 σ → Paired (RepX K H1 S1) xs vs → P xs S1 → Q vs H1) : liftA K cx (wpE T c r) σ H Q :=
  ⟨S, σ2, hr, rs, wpE_mono hc w fun xs S1 p vs H1 hr1 k r1 => h xs S1 vs H1 hr1 k (rs.keep k hr) r1 p⟩
theorem stepT (hc : CalMono c) {r : R} {P : Bool → Hs → Prop} {Q : Bool → Hp → Prop} (hr : Rel K cx S H) (rs : RelX K S H σ2 σ) (w : wpE T c r σ2 S (one1 (tstK P)))
    (h : ∀ b S1 H1, Rel K cx S1 H1 → Keep S S1 H H1 → RelX K S1 H1 σ2 σ → P b S1 → Q b H1) : liftT K cx (wpE T c r) σ H Q :=
  ⟨S, σ2, hr, rs, wpE_mono hc w fun xs S1 => one1_mono fun x S1 => tstK_mono fun b S1 p H1 hr1 k => h b S1 H1 hr1 k (rs.keep k hr) p⟩
end

/-! ### the same reading, weaker -/
section
variable {X : Cx}
theorem peImp {e : Expr} {t t' : TE} (h : PE X e t) (i : ∀ σ H Q, t' σ H Q → t σ H Q) : PE X e t' := ⟨fun pins s σ H Q I w => h.run pins s σ H Q I (i _ _ _ w)⟩
theorem ptImp {e : Expr} {t t' : TT} (h : PT X e t) (i : ∀ σ H Q, t' σ H Q → t σ H Q) : PT X e t' := ⟨fun pins s σ H Q I w => h.run pins s σ H Q I (i _ _ _ w)⟩
theorem pwImp {e : Expr} {t t' : TT} (h : PW X e t) (i : ∀ σ H Q, t' σ H Q → t σ H Q) : PW X e t' := ⟨fun wh pins s σ H Q I w => h.run wh pins s σ H Q I (i _ _ _ w)⟩
theorem paImp {e : List Expr} {t t' : TA} (h : PA X e t) (i : ∀ σ H Q, t' σ H Q → t σ H Q) : PA X e t' := ⟨fun p pins s σ H Q I w => h.run p pins s σ H Q I (i _ _ _ w)⟩

variable {T : Tbl} {c : Nat → List Vx → Hs → VK2 → Prop} {cx : Cls2} (hc : CalMono c)
include hc
/-! ### names, constants -/
theorem snd_v {i : Nat} {x : Str} {pos : Pos} (hN : X.N[i]? = some x) (hv : Vis X.env.scope x) (h1 : (x == ("__debug__" : Str)) = false) (h2 : (x == ("__classdict__" : Str)) = false) : PE X (.Name x pos) (liftE X.K cx (wpE T c (.v i))) :=
  peImp (pe_var hN hv h1 h2) fun σ H Q ⟨S, σ2, hr, rs, x, e, y, e', q⟩ => by
    cases e'
    obtain ⟨v, h1, h2⟩ := rs.2 i x e
    exact ⟨v, h1, fin q hr h2.bor (bor_own x)⟩
theorem snd_i {i : Int} {k : Nat} {pos : Pos} : PE X (.Constant (.int i) k pos) (liftE X.K cx (wpE T c (.i i))) := peImp pe_int fun σ H Q ⟨S, σ2, hr, rs, y, e', q⟩ => by cases e'; exact fin_d q hr rfl
theorem snd_b {b : Bool} {k : Nat} {pos : Pos} : PE X (.Constant (.bool b) k pos) (liftE X.K cx (wpE T c (.b b))) := peImp pe_bl fun σ H Q ⟨S, σ2, hr, rs, y, e', q⟩ => by cases e'; exact fin_d q hr rfl
theorem snd_n {k : Nat} {pos : Pos} : PE X (.Constant .none k pos) (liftE X.K cx (wpE T c .n)) := peImp pe_non fun σ H Q ⟨S, σ2, hr, rs, y, e', q⟩ => by cases e'; exact fin_d q hr rfl
theorem snd_s {s : List Nat} {x : Str} (hs : x = sv s) {k : Nat} {pos : Pos} : PE X (.Constant (.str x) k pos) (liftE X.K cx (wpE T c (.s s))) := peImp pe_str fun σ H Q ⟨S, σ2, hr, rs, y, e', q⟩ => by subst hs; cases e'; exact fin_d q hr rfl
/-! ### operators -/
theorem lift_bin {f : Vx → Vx → Hs → VK2 → Prop} (hf : ∀ x y S Q Q', (∀ z S, Q z S → Q' z S) → f x y S Q → f x y S Q') {a b : R} {σ : L2.St} {H : Hp} {Q : VK} {S : Hs} {σ2 : Sl} (hr : Rel X.K cx S H) (rs : RelX X.K S H σ2 σ)
    (w : wpE T c a σ2 S (one1 fun x S1 => wpE T c b σ2 S1 (one1 fun y S2 => f x y S2 fun z S3 => kE X.K cx S H Q [z] S3))) : tOp (r2of X.K cx f) (liftE X.K cx (wpE T c a)) (liftE X.K cx (wpE T c b)) σ H Q :=
  stepE hc hr rs w fun x S1 v H1 hr1 k1 rs1 r1 w => stepE hc hr1 rs1 w fun y S2 u H2 hr2 k2 rs2 r2 w =>
    ⟨S2, x, y, hr2, r1.1.keep k2 hr1, r2.1, hf _ _ _ _ _ (fun z S3 ⟨z', e, q⟩ => by cases e; exact KVof.of (k1.trans k2) q) w⟩
theorem snd_bin {op : Operator} {o : O2} (ho : OpR X (binaryOp op) (r2of X.K cx (op2D o))) {a b : R} {ea eb : Expr} {pos : Pos} (ha : PE X ea (liftE X.K cx (wpE T c a))) (hb : PE X eb (liftE X.K cx (wpE T c b))) :
    PE X (.BinOp ea op eb pos) (liftE X.K cx (wpE T c (.o2 o a b))) := peImp (pe_op ho ha hb) fun σ H Q ⟨S, σ2, hr, rs, w⟩ => lift_bin hc (f := op2D _) (fun _ _ _ _ _ h => op2D_mono h) hr rs w
theorem snd_cmp {op : CmpOp} {o : O2} (ho : OpR X (compareOp op) (r2of X.K cx (op2D o))) {a b : R} {ea eb : Expr} {pos : Pos} (hm : behindInMarks op eb = false) (ha : PE X ea (liftE X.K cx (wpE T c a))) (hb : PE X eb (liftE X.K cx (wpE T c b))) :
    PE X (.Compare ea [op] [eb] pos) (liftE X.K cx (wpE T c (.o2 o a b))) := peImp (pe_cmpR ho ha hb hm) fun σ H Q ⟨S, σ2, hr, rs, w⟩ => lift_bin hc (f := op2D _) (fun _ _ _ _ _ h => op2D_mono h) hr rs w
theorem snd_ix (ho : IxR X (r2of X.K cx (op2D .idx))) {a b : R} {ea eb : Expr} {pos : Pos} (hp : PlainIx eb) (ha : PE X ea (liftE X.K cx (wpE T c a))) (hb : PE X eb (liftE X.K cx (wpE T c b))) :
    PE X (.Subscript ea eb pos) (liftE X.K cx (wpE T c (.o2 .idx a b))) := peImp (pe_ix ho ha hb hp) fun σ H Q ⟨S, σ2, hr, rs, w⟩ => lift_bin hc (f := op2D _) (fun _ _ _ _ _ h => op2D_mono h) hr rs w
theorem snd_neg {a : R} {ea : Expr} {pos : Pos} (ha : PE X ea (liftE X.K cx (wpE T c a))) : PE X (.UnaryOp .USub ea pos) (liftE X.K cx (wpE T c (.o1 .neg a))) :=
  peImp (pe_un (op1_neg (cx := cx)) ha) fun σ H Q ⟨S, σ2, hr, rs, w⟩ => stepE hc hr rs w fun x S1 v H1 hr1 k1 rs1 r1 w =>
    ⟨S1, x, hr1, r1.1, op1D_mono (fun z S3 ⟨z', e, q⟩ => by cases e; exact KVof.of k1 q) w⟩
/-! ### truths -/
theorem kE_bl {S S1 : Hs} {H : Hp} {Q : VK} {b : Bool} (q : kE X.K cx S H Q [.d (.bl b)] S1) {H1 : Hp} (k : Keep S S1 H H1) (hr1 : Rel X.K cx S1 H1) : Q (.bl b) H1 := by
  obtain ⟨x, e, q⟩ := q
  cases e
  exact fin_bl (KVof.of k q) hr1
theorem kE_of {S S1 : Hs} {H : Hp} {Q : VK} {xs : List Vx} {S' : Hs} (q : kE X.K cx S H Q xs S') {H1 : Hp} (k : Keep S S1 H H1) : kE X.K cx S1 H1 Q xs S' := let ⟨x, e, q⟩ := q; ⟨x, e, KVof.of k q⟩
theorem snd_not {a : R} {ea : Expr} {pos : Pos} (ha : PE X ea (liftE X.K cx (wpE T c a))) : PE X (.UnaryOp .Not ea pos) (liftE X.K cx (wpE T c (.not a))) :=
  peImp (pe_not ha) fun σ H Q ⟨S, σ2, hr, rs, w⟩ => stepE hc hr rs w fun x S1 v H1 hr1 k1 rs1 r1 w => by
    obtain ⟨b, rfl, w⟩ := tstK_of w
    cases r1.1
    exact ⟨b, rfl, kE_bl hc w k1 hr1⟩
theorem snd_one {op : BoolOp} {a : R} {ea : Expr} {pos : Pos} (ha : PE X ea (liftE X.K cx (wpE T c a))) : PE X (.BoolOp op [ea] pos) (liftE X.K cx (wpE T c (.one a))) :=
  peImp (pe_one ha) fun σ H Q ⟨S, σ2, hr, rs, w⟩ => stepE hc hr rs w fun x S1 v H1 hr1 k1 rs1 r1 w => by
    obtain ⟨b, rfl, w⟩ := tstK_of w
    cases r1.1
    exact kE_bl hc w k1 hr1
theorem snd_and {a r : R} {ea eb : Expr} {er : List Expr} {pos : Pos} (ha : PE X ea (liftE X.K cx (wpE T c a))) (hb : PE X (.BoolOp .And (eb :: er) pos) (liftE X.K cx (wpE T c r))) :
    PE X (.BoolOp .And (ea :: eb :: er) pos) (liftE X.K cx (wpE T c (.and a r))) :=
  peImp (pe_and ha hb) fun σ H Q ⟨S, σ2, hr, rs, w⟩ => stepE hc hr rs w fun x S1 v H1 hr1 k1 rs1 r1 w => by
    obtain ⟨b, rfl, w⟩ := tstK_of w
    cases r1.1
    refine ⟨b, rfl, ?_⟩
    cases b with
    | true => exact iteT ⟨S1, σ2, hr1, rs1, wpE_mono hc (w.t rfl) fun xs S' q => kE_of hc q k1⟩
    | false => exact iteF (kE_bl hc (w.f rfl) k1 hr1)
theorem snd_or {a r : R} {ea eb : Expr} {er : List Expr} {pos : Pos} (ha : PE X ea (liftE X.K cx (wpE T c a))) (hb : PE X (.BoolOp .Or (eb :: er) pos) (liftE X.K cx (wpE T c r))) :
    PE X (.BoolOp .Or (ea :: eb :: er) pos) (liftE X.K cx (wpE T c (.or a r))) :=
  peImp (pe_or ha hb) fun σ H Q ⟨S, σ2, hr, rs, w⟩ => stepE hc hr rs w fun x S1 v H1 hr1 k1 rs1 r1 w => by
    obtain ⟨b, rfl, w⟩ := tstK_of w
    cases r1.1
    refine ⟨b, rfl, ?_⟩
    cases b with
    | true => exact iteT (kE_bl hc (w.t rfl) k1 hr1)
    | false => exact iteF ⟨S1, σ2, hr1, rs1, wpE_mono hc (w.f rfl) fun xs S' q => kE_of hc q k1⟩
theorem snd_ife {k a b : R} {ek ea eb : Expr} {pos : Pos} (hk : PT X ek (liftT X.K cx (wpE T c k))) (ha : PE X ea (liftE X.K cx (wpE T c a))) (hb : PE X eb (liftE X.K cx (wpE T c b))) :
    PE X (.IfExp ek ea eb pos) (liftE X.K cx (wpE T c (.ife k a b))) :=
  peImp (pe_ifExp hk ha hb) fun σ H Q ⟨S, σ2, hr, rs, w⟩ => stepT hc hr rs w fun b S1 H1 hr1 k1 rs1 w => by
    cases b with
    | true => exact iteT ⟨S1, σ2, hr1, rs1, wpE_mono hc (w.t rfl) fun xs S' q => by obtain ⟨x, rfl, q⟩ := one1_of q; exact kE_of hc q k1⟩
    | false => exact iteF ⟨S1, σ2, hr1, rs1, wpE_mono hc (w.f rfl) fun xs S' q => by obtain ⟨x, rfl, q⟩ := one1_of q; exact kE_of hc q k1⟩
theorem snd_chain {o o' : O2} {op op' : CmpOp} (ho : OpR X (compareOp op) (r2of X.K cx (op2D o))) (ho' : OpR X (compareOp op') (r2of X.K cx (op2D o'))) {a b k : R} {ea eb ek : Expr} {pos : Pos}
    (ha : PE X ea (liftE X.K cx (wpE T c a))) (hb : PE X eb (liftE X.K cx (wpE T c b))) (hk : PE X ek (liftE X.K cx (wpE T c k))) (h1 : behindInMarks op eb = false) (h2 : behindInMarks op' ek = false) :
    (PE X (.Compare ea [op, op'] [eb, ek] pos) (liftE X.K cx (wpE T c (.chain o o' a b k)))) ∧ PT X (.Compare ea [op, op'] [eb, ek] pos) (liftT X.K cx (wpE T c (.chain o o' a b k))) := by
  have hm : lastMarks [op, op'] [eb, ek] = false := by
    first
      | exact h2
      | (simp only [lastMarks]; exact h2)
      | (unfold lastMarks; simp [h1, h2])
  have key : ∀ {σ : L2.St} {H : Hp} {Q : Bool → Hp → Prop} {S : Hs} {σ2 : Sl} {P : LK2}, Rel X.K cx S H → RelX X.K S H σ2 σ → wpE T c (.chain o o' a b k) σ2 S P → (∀ bb S' H', P [.d (.bl bb)] S' → Rel X.K cx S' H' → Keep S S' H H' → Q bb H') →
      tChain (r2of X.K cx (op2D o)) (r2of X.K cx (op2D o')) (liftE X.K cx (wpE T c a)) (liftE X.K cx (wpE T c b)) (liftE X.K cx (wpE T c k)) σ H (fun z H' => ∃ bb, z = .bl bb ∧ Q bb H') := fun {σ H Q S σ2 P} hr rs w fin =>
    stepE hc hr rs w fun x S1 v H1 hr1 k1 rs1 r1 w => stepE hc hr1 rs1 w fun y S2 u H2 hr2 k2 rs2 r2 w =>
      ⟨S2, x, y, hr2, r1.1.keep k2 hr1, r2.1, op2D_mono (fun z S3 q => by
        obtain ⟨bb, rfl, q⟩ := tstK_of q
        intro z H3 hr3 k3 r3
        cases r3.1
        refine ⟨bb, rfl, ?_⟩
        have rs3 := rs2.keep k3 hr2
        have ry3 := r2.1.keep k3 hr2
        cases bb with
        | true =>
          refine iteT (stepE hc hr3 rs3 (q.t rfl) fun z S4 zv H4 hr4 k4 rs4 r4 w => ⟨S4, y, z, hr4, ry3.keep k4 hr3, r4.1, op2D_mono (fun z' S5 q => ?_) w⟩)
          obtain ⟨b2, rfl, q⟩ := tstK_of q
          intro z' H5 hr5 k5 r5
          cases r5.1
          exact ⟨b2, rfl, fin _ _ _ q hr5 ((((k1.trans k2).trans k3).trans k4).trans k5)⟩
        | false => exact iteF ⟨false, rfl, fin _ _ _ (q.f rfl) hr3 ((k1.trans k2).trans k3)⟩) w⟩
  refine ⟨⟨fun pins s σ H Q I ⟨S, σ2, hr, rs, w⟩ => ?_⟩, ptImp (pt_chain ho ho' ha hb hk hm) fun σ H Q ⟨S, σ2, hr, rs, w⟩ => ?_⟩
  · have h := key (Q := fun bb H' => Q (.bl bb) H') hr rs w fun bb S' H' q hr' k => by
      obtain ⟨x, e, q⟩ := q
      cases e
      exact q _ _ hr' k ⟨rfl, fun e => by cases e⟩
    exact thn ((pe_chain ho ho' ha hb hk hm).run pins s σ H _ I h) fun u s' ⟨v, H', I', rv, bb, e, q⟩ => ⟨v, H', I', rv, by subst e; exact q⟩
  · exact key (Q := Q) hr rs w fun bb S' H' q hr' k => q H' hr' k
/-! ### arguments -/
theorem snd_nil : PA X [] (liftA X.K cx (wpE T c .nil)) := paImp pa_nil fun σ H Q ⟨S, σ2, hr, rs, w⟩ => w [] H hr .refl .nil
theorem snd_cons {a r : R} {e : Expr} {es : List Expr} (ha : PE X e (liftE X.K cx (wpE T c a))) (hb : PA X es (liftA X.K cx (wpE T c r))) (hs : starEach (e :: es) X.env = (false, eval e X.env) :: starEach es X.env) :
    PA X (e :: es) (liftA X.K cx (wpE T c (.cons a r))) :=
  paImp (pa_cons ha hb hs) fun σ H Q ⟨S, σ2, hr, rs, w⟩ => stepE hc hr rs w fun x S1 v H1 hr1 k1 rs1 r1 w => stepA hc hr1 rs1 w fun xs S2 vs H2 hr2 k2 rs2 r2 w =>
    w (v :: vs) H2 hr2 (k1.trans k2) (.cons (r1.1.bor.keep k2 hr1) r2)
theorem rel_box {K : Frag} {S S1 : Hs} {H H1 : Hp} {x : Vx} {v : V} {P : D → Hs → Prop} (hr1 : Rel K cx S1 H1) (k1 : Keep S S1 H H1) (r : RepR K H H1 S1 x v) (w : bx x S1 P) :
    ∃ d S2, P d S2 ∧ Rel K cx S2 H1 ∧ Keep S S2 H H1 ∧ RepV K H1 d v ∧ (S2 = S1 ∨ ∃ a o, v = .ref a ∧ S1 a = none ∧ H a = none ∧ S2 = su S1 a o) := by
  cases x with
  | d y => exact ⟨y, S1, w, hr1, k1, r.1, .inl rfl⟩
  | vl ds =>
    obtain ⟨⟨a, vs, rfl, h, n, r1⟩, f⟩ := r
    obtain ⟨a', e, n'⟩ := f rfl
    cases e
    refine ⟨.ref a, su S1 a (.lst ds), w a n, hr1.box ⟨vs, h, r1⟩, ⟨fun b o e z => ?_, k1.up⟩, rfl, .inr ⟨a, _, rfl, n, n', rfl⟩⟩
    obtain ⟨h1, h2⟩ := k1.kp b o e z
    refine ⟨h1, ?_⟩
    rw [su_ne (ne_of_none e n')]
    exact h2
  | vd ds =>
    obtain ⟨⟨a, vs, rfl, h, n, r1⟩, f⟩ := r
    obtain ⟨a', e, n'⟩ := f rfl
    cases e
    refine ⟨.ref a, su S1 a (.dic ds), w a n, hr1.box ⟨vs, h, r1⟩, ⟨fun b o e z => ?_, k1.up⟩, rfl, .inr ⟨a, _, rfl, n, n', rfl⟩⟩
    obtain ⟨h1, h2⟩ := k1.kp b o e z
    refine ⟨h1, ?_⟩
    rw [su_ne (ne_of_none e n')]
    exact h2
  | bw _ => exact w.elim
  | fz _ => exact w.elim
  | bd _ => exact w.elim
  | st _ => exact w.elim
theorem snd_consb {a r : R} {e : Expr} {es : List Expr} (ha : PE X e (liftE X.K cx (wpE T c a))) (hb : PA X es (liftA X.K cx (wpE T c r))) (hs : starEach (e :: es) X.env = (false, eval e X.env) :: starEach es X.env) :
    PA X (e :: es) (liftA X.K cx (wpE T c (.consb a r))) :=
  paImp (pa_cons ha hb hs) fun σ H Q ⟨S, σ2, hr, rs, w⟩ => stepE hc hr rs w fun x S1 v H1 hr1 k1 rs1 r1 w => by
    obtain ⟨d, S2, w, hr2, k2, r2, _⟩ := rel_box hc hr1 k1 r1 w
    refine stepA hc hr2 (rs.keep k2 hr) w fun xs S3 vs H3 hr3 k3 rs3 r3 w => ?_
    exact w (v :: vs) H3 hr3 (k2.trans k3) (.cons (RepV.keep (k3.tups hr2) _ _ r2) r3)
theorem map_d {K : Frag} {S : Hs} {H : Hp} : ∀ {ds : List D} {vs : List V}, Paired (RepX K H S) (ds.map Vx.d) vs → RepL K H ds vs
  | [], _, .nil => rfl
  | d :: ds, _, .cons r t => ⟨_, _, rfl, r, map_d t⟩
theorem snd_tup {as : R} {es : List Expr} {x1 : Nat} {pos : Pos} (h : PA X es (liftA X.K cx (wpE T c as))) : PE X (.Tuple es x1 pos) (liftE X.K cx (wpE T c (.tup as))) :=
  peImp (pe_tup h) fun σ H Q ⟨S, σ2, hr, rs, w⟩ => stepA hc hr rs w fun xs S1 vs H1 hr1 k1 rs1 r1 ⟨ds, e, hz, w⟩ => by
    have e := unD_map e
    subst e
    have r := map_d hc r1
    obtain ⟨x, e, q⟩ := w
    cases e
    exact ⟨by rw [← r.length]; exact hz, fin_tup (KVof.of k1 q) hr1 r⟩
theorem snd_lst {as : R} {es : List Expr} {pos : Pos} (h : PA X es (liftA X.K cx (wpE T c as))) : PE X (.List es pos) (liftE X.K cx (wpE T c (.lst as))) :=
  peImp (pe_lst h) fun σ H Q ⟨S, σ2, hr, rs, w⟩ => stepA hc hr rs w fun xs S1 vs H1 hr1 k1 rs1 r1 ⟨ds, e, hz, w⟩ => by
    have e := unD_map e
    subst e
    have r := map_d hc r1
    obtain ⟨x, e, q⟩ := w
    cases e
    exact ⟨by rw [← r.length]; exact hz, fin_vl (KVof.of k1 q) hr1 r⟩
theorem snd_dct {pos : Pos} : PE X (.Dict [] [] pos) (liftE X.K cx (wpE T c .dct)) :=
  peImp pe_dnewK fun σ H Q ⟨S, σ2, hr, rs, w⟩ => fun p n => by
    obtain ⟨x, e, q⟩ := w
    cases e
    exact q _ _ (hr.upd0 (hr.free n) (tupS_new n)) (.new n) ⟨⟨p, [], rfl, upd_same, hr.free n, .nil⟩, fun _ => ⟨p, rfl, n⟩⟩
/-! ### calls of built-ins -/
theorem snd_call1 {o : O1} {a : R} {ea : Expr} {e : Expr} (hp : ∀ t : TA, PA X [ea] t → PE X e (tCB (c1of X.K cx o) t))
    (hs : starEach [ea] X.env = [(false, eval ea X.env)]) (ha : PE X ea (liftE X.K cx (wpE T c a))) : PE X e (liftE X.K cx (wpE T c (.o1 o a))) :=
  peImp (hp _ (pa_cons ha pa_nil hs)) fun σ H Q ⟨S, σ2, hr, rs, w⟩ => stepE hc hr rs w fun x S1 v H1 hr1 k1 rs1 r1 w =>
    ⟨v, rfl, S1, x, hr1, r1.1, op1D_mono (fun z S3 ⟨z', e, q⟩ => by cases e; exact KVof.of k1 q) w⟩
theorem snd_call2 {o : O2} {a b : R} {ea eb : Expr} {e : Expr} (hp : ∀ t : TA, PA X [ea, eb] t → PE X e (tCB (c2of X.K cx o) t))
    (hs : starEach [ea, eb] X.env = (false, eval ea X.env) :: starEach [eb] X.env) (hs2 : starEach [eb] X.env = [(false, eval eb X.env)]) (ha : PE X ea (liftE X.K cx (wpE T c a))) (hb : PE X eb (liftE X.K cx (wpE T c b))) : PE X e (liftE X.K cx (wpE T c (.o2 o a b))) :=
  peImp (hp _ (pa_cons ha (pa_cons hb pa_nil hs2) hs)) fun σ H Q ⟨S, σ2, hr, rs, w⟩ => stepE hc hr rs w fun x S1 v H1 hr1 k1 rs1 r1 w => stepE hc hr1 rs1 w fun y S2 u H2 hr2 k2 rs2 r2 w =>
    ⟨v, u, rfl, S2, x, y, hr2, r1.1.keep k2 hr1, r2.1, op2D_mono (fun z S3 ⟨z', e, q⟩ => by cases e; exact KVof.of (k1.trans k2) q) w⟩
theorem snd_isi {t : Ty} {a : R} {ea et : Expr} {e : Expr} (hp : ∀ t' : TA, PA X [ea, et] t' → PE X e (tCB (fun vs H Q => ∃ v, vs = [v, .ty t.nm] ∧ r1of X.K cx (op1D (.isi t)) v H Q) t'))
    (hs : starEach [ea, et] X.env = (false, eval ea X.env) :: starEach [et] X.env) (hs2 : starEach [et] X.env = [(false, eval et X.env)]) (ha : PE X ea (liftE X.K cx (wpE T c a))) (hb : PE X et (tC (.ty t.nm))) : PE X e (liftE X.K cx (wpE T c (.o1 (.isi t) a))) :=
  peImp (hp _ (pa_cons ha (pa_cons hb pa_nil hs2) hs)) fun σ H Q ⟨S, σ2, hr, rs, w⟩ => stepE hc hr rs w fun x S1 v H1 hr1 k1 rs1 r1 w =>
    ⟨v, rfl, S1, x, hr1, r1.1, op1D_mono (fun z S3 ⟨z', e, q⟩ => by cases e; exact KVof.of k1 q) w⟩
end
end DL

/-! DL7: tests, calls, fields, mutators, slices are sound. -/
namespace DL
open PySem L2 PySem.Spec PyProof.Rows
section
variable {X : Cx} {T : Tbl} {c : Nat → List Vx → Hs → VK2 → Prop} {cx : Cls2} (hc : CalMono c)
include hc
/-! ### tests -/
theorem kT_bl {K : Frag} {S S' S1 : Hs} {H : Hp} {Q : Bool → Hp → Prop} {b : Bool} (q : kT K cx S H Q [.d (.bl b)] S') {H1 : Hp} (k : Keep S S' H H1) (hr1 : Rel K cx S' H1) : Q b H1 := q H1 hr1 k
theorem kT_of {K : Frag} {S S1 S' : Hs} {H H1 : Hp} {Q : Bool → Hp → Prop} {xs : List Vx} (q : kT K cx S H Q xs S') (k : Keep S S1 H H1) : kT K cx S1 H1 Q xs S' :=
  one1_mono (fun x S => tstK_mono fun b S q H' hr' k' => q H' hr' (k.trans k')) q
theorem kT_elim {K : Frag} {S S' : Hs} {H : Hp} {Q : Bool → Hp → Prop} {xs : List Vx} (q : kT K cx S H Q xs S') : ∃ b, xs = [.d (.bl b)] ∧ ∀ H', Rel K cx S' H' → Keep S S' H H' → Q b H' := by
  obtain ⟨x, e, q⟩ := one1_of q
  obtain ⟨b, e', q⟩ := tstK_of q
  subst e e'
  exact ⟨b, rfl, q⟩
theorem tst_val {r : R} {e : Expr} (h : PE X e (liftE X.K cx (wpE T c r))) (he : ∀ whole, isTrue e X.env whole = (do let v ← whole; standAt e.pos; holding [v] (truthy v))) : PT X e (liftT X.K cx (wpE T c r)) :=
  ptImp (pt_val h he) fun σ H Q ⟨S, σ2, hr, rs, w⟩ => ⟨S, σ2, hr, rs, wpE_mono hc w fun xs S1 q => by
    obtain ⟨b, rfl, q⟩ := kT_elim hc q
    refine ⟨_, rfl, fun v H' hr' k r => ?_⟩
    cases r.1
    exact ⟨b, rfl, q H' hr' k⟩⟩
theorem tst_cmp {op : CmpOp} {o : O2} (ho : OpR X (compareOp op) (r2of X.K cx (op2D o))) {a b : R} {ea eb : Expr} {pos : Pos} (hm : behindInMarks op eb = false) (ha : PE X ea (liftE X.K cx (wpE T c a))) (hb : PE X eb (liftE X.K cx (wpE T c b))) :
    PT X (.Compare ea [op] [eb] pos) (liftT X.K cx (wpE T c (.o2 o a b))) := ptImp (pt_cmpR ho ha hb hm) fun σ H Q ⟨S, σ2, hr, rs, w⟩ =>
  stepE hc hr rs w fun x S1 v H1 hr1 k1 rs1 r1 w => stepE hc hr1 rs1 w fun y S2 u H2 hr2 k2 rs2 r2 w =>
    ⟨S2, x, y, hr2, r1.1.keep k2 hr1, r2.1, op2D_mono (fun z S3 q => by
      obtain ⟨b, e, q⟩ := kT_elim hc q
      cases e
      intro v H' hr' k r
      cases r.1
      exact ⟨b, rfl, q H' hr' ((k1.trans k2).trans k)⟩) w⟩
theorem tst_not {a : R} {ea : Expr} {pos : Pos} (ha : PT X ea (liftT X.K cx (wpE T c a))) : PT X (.UnaryOp .Not ea pos) (liftT X.K cx (wpE T c (.not a))) :=
  ptImp (pt_not ha) fun σ H Q ⟨S, σ2, hr, rs, w⟩ => stepT hc hr rs w fun b S1 H1 hr1 k1 rs1 w => w H1 hr1 k1
theorem tst_one {op : BoolOp} {a : R} {ea : Expr} {pos : Pos} (ha : PT X ea (liftT X.K cx (wpE T c a))) : PW X (.BoolOp op [ea] pos) (liftT X.K cx (wpE T c (.one a))) := by
  have i : ∀ σ H Q, liftT X.K cx (wpE T c (.one a)) σ H Q → liftT X.K cx (wpE T c a) σ H Q := fun σ H Q ⟨S, σ2, hr, rs, w⟩ => stepT hc hr rs w fun b S1 H1 hr1 k1 rs1 w => w H1 hr1 k1
  cases op with
  | And => exact pwImp (pw_and1 ha) i
  | Or => exact pwImp (pw_or1 ha) i
theorem tst_and {a r : R} {ea eb : Expr} {er : List Expr} {pos : Pos} (ha : PT X ea (liftT X.K cx (wpE T c a))) (hb : PW X (.BoolOp .And (eb :: er) pos) (liftT X.K cx (wpE T c r))) :
    PW X (.BoolOp .And (ea :: eb :: er) pos) (liftT X.K cx (wpE T c (.and a r))) :=
  pwImp (pw_and ha hb) fun σ H Q ⟨S, σ2, hr, rs, w⟩ => stepT hc hr rs w fun b S1 H1 hr1 k1 rs1 w => by
    cases b with
    | true => exact iteT ⟨S1, σ2, hr1, rs1, wpE_mono hc (w.t rfl) fun xs S' q => kT_of hc q k1⟩
    | false => exact iteF (w.f rfl H1 hr1 k1)
theorem tst_or {a r : R} {ea eb : Expr} {er : List Expr} {pos : Pos} (ha : PT X ea (liftT X.K cx (wpE T c a))) (hb : PW X (.BoolOp .Or (eb :: er) pos) (liftT X.K cx (wpE T c r))) :
    PW X (.BoolOp .Or (ea :: eb :: er) pos) (liftT X.K cx (wpE T c (.or a r))) :=
  pwImp (pw_or ha hb) fun σ H Q ⟨S, σ2, hr, rs, w⟩ => stepT hc hr rs w fun b S1 H1 hr1 k1 rs1 w => by
    cases b with
    | true => exact iteT (w.t rfl H1 hr1 k1)
    | false => exact iteF ⟨S1, σ2, hr1, rs1, wpE_mono hc (w.f rfl) fun xs S' q => kT_of hc q k1⟩
/-! ### slices -/
/-- a slice's part as it is written -/
def PartOk (X : Cx) (T : Tbl) (c : Nat → List Vx → Hs → VK2 → Prop) (cx : Cls2) (a : R) (e : Option Expr) : Prop :=
  PO X e (fun σ H Q => ∃ S σ2, Rel X.K cx S H ∧ RelX X.K S H σ2 σ ∧ wpE T c a σ2 S (one1 fun l S' => ∃ l', optI a l = some l' ∧ ∀ H', Rel X.K cx S' H' → Keep S S' H H' → Q l' H'))
theorem part_n : PartOk X T c cx .n none := ⟨fun pins s σ H Q I ⟨S, σ2, hr, rs, l', e, w⟩ => (po_none (X := X)).run pins s σ H Q I (by cases e; exact w H hr .refl)⟩
theorem part_e {a : R} {ea : Expr} (hn : a ≠ .n) (ha : PE X ea (liftE X.K cx (wpE T c a))) : PartOk X T c cx a (some ea) :=
  ⟨fun pins s σ H Q I ⟨S, σ2, hr, rs, w⟩ => (po_some ha).run pins s σ H Q I (stepE hc hr rs w fun x S1 v H1 hr1 k1 rs1 r1 ⟨l', e, w⟩ => by
    unfold optI at e
    split at e
    · exact (hn rfl).elim
    · cases e
      cases r1.1
      exact ⟨_, rfl, w H1 hr1 k1⟩
    · cases e)⟩
theorem snd_slc {a lo hi : R} {ea : Expr} {el eh : Option Expr} {p2 pos : Pos} (ha : PE X ea (liftE X.K cx (wpE T c a))) (hl : PartOk X T c cx lo el) (hh : PartOk X T c cx hi eh) :
    PE X (.Subscript ea (.Slice el eh none p2) pos) (liftE X.K cx (wpE T c (.slc a lo hi))) :=
  peImp (pe_slice (slc_ok (cx := cx)) ha hl hh) fun σ H Q ⟨S, σ2, hr, rs, w⟩ => stepE hc hr rs w fun x S1 v H1 hr1 k1 rs1 r1 w => by
    refine ⟨S1, σ2, hr1, rs1, wpE_mono hc w fun ls S2 w => one1_mono (fun l S2 ⟨l', e, w⟩ => ⟨l', e, fun H2 hr2 k2 => ?_⟩) w⟩
    refine ⟨S2, σ2, hr2, rs1.keep k2 hr1, wpE_mono hc w fun us S3 w => one1_mono (fun u S3 ⟨u', e, w⟩ => ⟨u', e, fun H3 hr3 k3 => ?_⟩) w⟩
    exact ⟨S3, x, hr3, (r1.1.keep k2 hr1).keep k3 hr2, view_mono (fun c => slcC_mono fun z S4 ⟨z', e, q⟩ => by cases e; exact KVof.of ((k1.trans k2).trans k3) q) w⟩
/-! ### fields -/
theorem lookup_fld {ns : List Str} {fv : List (Str × V)} {k : Nat} {f : Str} {K : Frag} {H : Hp} {fs : List D} {d : D} (nd : ns.Nodup) (hm : fv.map Prod.fst = ns.take fs.length) (hf : ns[k]? = some f) (r : RepL K H fs (fv.map Prod.snd)) (e : fs[k]? = some d) :
    ∃ v, fv.lookup f = some v ∧ RepV K H d v := by
  obtain ⟨v, h1, h2⟩ := r.get e
  refine ⟨v, ?_, h2⟩
  have hk : k < fs.length := (List.getElem?_eq_some_iff.mp e).1
  have h3 : (fv.map Prod.fst)[k]? = some f := by rw [hm, List.getElem?_take_of_lt hk]; exact hf
  clear e r hk
  have nd' : (fv.map Prod.fst).Nodup := by rw [hm]; exact nd.sublist (List.take_sublist _ _)
  clear hm hf nd
  induction fv generalizing k with
  | nil => simp at h1
  | cons p r ih =>
    obtain ⟨g, u⟩ := p
    have nd' : (g :: r.map Prod.fst).Nodup := nd'
    cases k with
    | zero =>
      simp at h1 h3
      subst h1 h3
      simp [List.lookup]
    | succ k =>
      have h1 : (r.map Prod.snd)[k]? = some v := by simpa using h1
      have h3 : (r.map Prod.fst)[k]? = some f := by simpa using h3
      have ne : ¬ f = g := fun z => (List.nodup_cons.mp nd').1 (z ▸ List.mem_of_getElem? h3)
      have hb : (f == g) = false := beq_eq_false_iff_ne.mpr ne
      simp only [List.lookup, hb]
      exact ih h1 h3 (List.nodup_cons.mp nd').2
/-- a class of the text: its fields are no attributes of the class, each once -/
structure ClsOk (K : Frag) (cx : Cls2) (i : Nat) : Prop where
  cl : Cls K (cx.adr i)
  nd : (cx.lay i).Nodup
  few : (cx.lay i).length ≤ 50
  no : ∀ f ∈ cx.lay i, NoAttr K (cx.adr i) f
theorem snd_fld {o : R} {k ci : Nat} {f : Str} {eo : Expr} {pos : Pos} (ok : ClsOk X.K cx ci) (hf : (cx.lay ci)[k]? = some f) (ho : PE X eo (liftE X.K cx (wpE T c o))) (hb : attributeBase eo f X.env (eval eo X.env) = eval eo X.env) :
    PE X (.Attribute eo f pos) (liftE X.K cx (wpE T c (.fld o ci k))) :=
  peImp (pe_fld ho hb) fun σ H Q ⟨S, σ2, hr, rs, w⟩ => stepE hc hr rs w fun x S1 v H1 hr1 k1 rs1 r1 w => by
    obtain ⟨a, fs, rfl, e, y, ey, z, ez, q⟩ := w
    cases ez
    cases r1.1
    obtain ⟨dx, fv, h1, h2, h3, h4⟩ := hr1 a _ e
    obtain ⟨u, h5, h6⟩ := lookup_fld hc ok.nd h2 hf h4 ey
    exact ⟨a, _, dx, fv, u, rfl, h1, ok.cl, ok.no f (List.mem_of_getElem? hf), h5, fin_d (KVof.of k1 q) hr1 h6⟩
/-! ### calls -/
/-- the promise of a def at the n-th depth -/
def spOf (K : Frag) (cx : Cls2) (cal : Nat → List Vx → Hs → VK2 → Prop) (f np : Nat) : Sp := fun vs H Q _ => vs.length = np ∧ ∃ S xs, Rel K cx S H ∧ Paired (RepX K H S) xs vs ∧ cal f xs S (KVof K cx S H Q)
section
variable {k f np : Nat} {fa C : Addr} {fd : FuncData} {ps : List Str} {x m : Str} {as o : R} {es : List Expr} {e eo : Expr} {p pos apos : Pos}
theorem spOf_of {K : Frag} {S S1 : Hs} {H H1 : Hp} {Q : VK} {xs : List Vx} {vs : List V} {E : XK} (hr1 : Rel K cx S1 H1) (k1 : Keep S S1 H H1) (r1 : Paired (RepX K H1 S1) xs vs) (hl : vs.length = np) (w : c f xs S1 fun r S2 => kE K cx S H Q [r] S2) : spOf K cx c f np (vs ++ []) H1 Q E := by
  rw [List.append_nil]
  exact ⟨hl, S1, xs, hr1, r1, hc _ _ _ _ _ (fun z S3 ⟨z', e, q⟩ => by cases e; exact KVof.of k1 q) w⟩
/-- the number of arguments, read off the call -/
def NumOk (c : Nat → List Vx → Hs → VK2 → Prop) (f np : Nat) : Prop := ∀ xs S Q, c f xs S Q → xs.length = np
theorem snd_call (F : FnOk X.prog X.w X.K X.mg X.base CX0 k fa fd ps (spOf X.K cx c f np)) (hn : NumOk c f np) (hr : Room k X.A) (hg : Gl X x) (hm : X.mg x = some (.ref fa)) (hk : PySem.W.keepIn X.K (.ref fa) = true) (hb : Binds X.K fd ps [])
    (ha : PA X (e :: es) (liftA X.K cx (wpE T c as))) (hdb : (x == ("__debug__" : Str)) = false) (he : starEach (e :: es) X.env = (false, eval e X.env) :: starEach es X.env) (hpl : (backTo pos (starEach es X.env)).any (·.1) = false) :
    PE X (.Call (.Name x p) (e :: es) [] pos) (liftE X.K cx (wpE T c (.call f as))) :=
  peImp (pe_call F hr hg hm hk hb .nil (pass0 (X := X)) ha hdb he hpl) fun σ H Q ⟨S, σ2, hr, rs, w⟩ => stepA hc hr rs w fun xs S1 vs H1 hr1 k1 rs1 r1 w => spOf_of hc hr1 k1 r1 (by rw [← Paired.length r1]; exact hn _ _ _ w) w
theorem snd_call0 (F : FnOk X.prog X.w X.K X.mg X.base CX0 k fa fd ps (spOf X.K cx c f np)) (hn : NumOk c f np) (hr : Room k X.A) (hg : Gl X x) (hm : X.mg x = some (.ref fa)) (hk : PySem.W.keepIn X.K (.ref fa) = true) (hb : Binds X.K fd ps [])
    (ha : PA X [] (liftA X.K cx (wpE T c as))) (hdb : (x == ("__debug__" : Str)) = false) (has : as = .nil) :
    PE X (.Call (.Name x p) [] [] pos) (liftE X.K cx (wpE T c (.call f as))) :=
  peImp (pe_call0 F hr hg hm hk hb .nil (pass0 (X := X)) hdb) fun σ H Q ⟨S, σ2, hr, rs, w⟩ => by
    subst has
    exact spOf_of (E := E0) (vs := []) hc hr .refl .nil (by have := hn _ _ _ w; simpa using this) w
theorem lookup_none {ns : List Str} {fv : List (Str × V)} {m : Str} {n : Nat} (hm : fv.map Prod.fst = ns.take n) (hno : m ∉ ns) : fv.lookup m = none := by
  have h : m ∉ fv.map Prod.fst := fun z => hno (List.mem_of_mem_take (hm ▸ z))
  clear hm
  induction fv with
  | nil => rfl
  | cons q r ih =>
    obtain ⟨g, u⟩ := q
    have h : m ∉ g :: r.map Prod.fst := h
    have hb : (m == g) = false := beq_eq_false_iff_ne.mpr fun z => h (z ▸ List.mem_cons_self)
    simp only [List.lookup, hb]
    exact ih fun z => h (List.mem_cons_of_mem _ z)
theorem snd_meth {pl : Sem Bool} {ci : Nat} (hci : T.fcls f = ci) (hC : cx.adr ci = C) (hcl : Cls X.K C) (hm : Meth X.K C m fa) (hno : m ∉ cx.lay ci) (F : FnOk X.prog X.w X.K X.mg X.base CX0 k fa fd ps (spOf X.K cx c f np)) (hn : NumOk c f np) (hr : Room k X.A) (hb : Binds X.K fd ps [])
    (ho : PE X eo (liftE X.K cx (wpE T c o))) (ha : PA X (e :: es) (liftA X.K cx (wpE T c as)))
    (hst : starEach (e :: es) X.env = (false, eval e X.env) :: starEach es X.env) (hpl : (backTo pos (starEach es X.env)).any (·.1) = false)
    (ht : eval (.Call (.Attribute eo m apos) (e :: es) [] pos) X.env = (do
      let ov ← eval eo X.env
      standAt apos.atName
      let (f, first) ← holding [ov] (getMethod ov m pl)
      callWith pos f first (backTo pos (starEach (e :: es) X.env)) (backToKw pos (keywordEach [] X.env)))) :
    PE X (.Call (.Attribute eo m apos) (e :: es) [] pos) (liftE X.K cx (wpE T c (.meth f o as))) :=
  peImp (pe_meth ho hcl hm F hr hb .nil (pass0 (X := X)) ha hst hpl ht) fun σ H Q ⟨S, σ2, hr, rs, w⟩ => stepE hc hr rs w fun x S1 v H1 hr1 k1 rs1 r1 w => by
    obtain ⟨a, fs, rfl, e, w⟩ := w
    cases r1.1
    rw [hci] at e
    obtain ⟨dx, fv, h1, h2, h3, h4⟩ := hr1 a _ e
    refine ⟨a, dx, fv, rfl, by rw [← hC]; exact h1, lookup_none hc h2 hno, stepA hc hr1 rs1 w fun xs S2 vs H2 hr2 k2 rs2 r2 w => ?_⟩
    exact spOf_of hc hr2 (k1.trans k2) (.cons (r1.1.keep k2 hr1) r2) (by have := hn _ _ _ w; simpa [Paired.length r2] using this) w
theorem snd_meth0 {pl : Sem Bool} {ci : Nat} (hci : T.fcls f = ci) (hC : cx.adr ci = C) (hcl : Cls X.K C) (hm : Meth X.K C m fa) (hno : m ∉ cx.lay ci) (F : FnOk X.prog X.w X.K X.mg X.base CX0 k fa fd ps (spOf X.K cx c f np)) (hn : NumOk c f np) (hr : Room k X.A) (hb : Binds X.K fd ps [])
    (ho : PE X eo (liftE X.K cx (wpE T c o)))
    (ht : eval (.Call (.Attribute eo m apos) [] [] pos) X.env = (do
      let ov ← eval eo X.env
      standAt apos.atName
      let (f, first) ← holding [ov] (getMethod ov m pl)
      callWith pos f first (backTo pos (starEach [] X.env)) (backToKw pos (keywordEach [] X.env)))) :
    PE X (.Call (.Attribute eo m apos) [] [] pos) (liftE X.K cx (wpE T c (.meth f o .nil))) :=
  peImp (pe_meth0 ho hcl hm F hr hb .nil (pass0 (X := X)) ht) fun σ H Q ⟨S, σ2, hr, rs, w⟩ => stepE hc hr rs w fun x S1 v H1 hr1 k1 rs1 r1 w => by
    obtain ⟨a, fs, rfl, e, w⟩ := w
    cases r1.1
    rw [hci] at e
    obtain ⟨dx, fv, h1, h2, h3, h4⟩ := hr1 a _ e
    refine ⟨a, dx, fv, rfl, by rw [← hC]; exact h1, lookup_none hc h2 hno, ?_⟩
    exact spOf_of (E := E0) (vs := [.ref a]) hc hr1 k1 (.cons r1.1 .nil) (by have := hn _ _ _ w; simpa using this) w
theorem rel_made {K : Frag} {S S1 : Hs} {H H1 : Hp} {ci : Nat} {a dx : Addr} (hr1 : Rel K cx S1 H1) (k1 : Keep S S1 H H1) (n : H1 a = none) (nd : H1 dx = none) (ne : dx ≠ a) :
    Rel K cx (su S1 a (.ins ci [])) (upd (upd H1 dx (.own a)) a (.ins (cx.adr ci) dx [])) ∧ Keep S (su S1 a (.ins ci [])) H (upd (upd H1 dx (.own a)) a (.ins (cx.adr ci) dx [])) ∧ Keep S1 S1 H1 (upd (upd H1 dx (.own a)) a (.ins (cx.adr ci) dx [])) := by
  have n2 : upd H1 dx (.own a) a = none := by rw [upd_ne (Ne.symm ne)]; exact n
  have r1 : Rel K cx S1 (upd H1 dx (.own a)) := hr1.upd0 (hr1.free nd) (tupS_new nd)
  have k2 : Keep S1 S1 H1 (upd (upd H1 dx (.own a)) a (.ins (cx.adr ci) dx [])) := (Keep.new nd).trans (Keep.new n2)
  refine ⟨r1.upd1 (tupS_new n2) ⟨dx, [], upd_same, by simp, Nat.zero_le _, rfl⟩, ⟨fun b o e z => ?_, (k1.trans k2).up⟩, k2⟩
  obtain ⟨h1, h2⟩ := k1.kp b o e z
  refine ⟨(k2.kp b o h1 h2).1, ?_⟩
  rw [su_ne (ne_of_none h1 n)]
  exact h2
theorem snd_make {ci : Nat} (hini : T.cini ci = f) (hC : cx.adr ci = C) (M : Mk X.K C fa) (F : FnOk X.prog X.w X.K X.mg X.base CX0 k fa fd ps (spOf X.K cx c f np)) (hn : NumOk c f np) (hr : Room (k + 1) X.A) (hg : Gl X x) (hm : X.mg x = some (.ref C)) (hb : Binds X.K fd ps [])
    (ha : PA X (e :: es) (liftA X.K cx (wpE T c as))) (hdb : (x == ("__debug__" : Str)) = false) (he : starEach (e :: es) X.env = (false, eval e X.env) :: starEach es X.env) (hpl : (backTo pos (starEach es X.env)).any (·.1) = false) :
    PE X (.Call (.Name x p) (e :: es) [] pos) (liftE X.K cx (wpE T c (.make ci as))) :=
  peImp (pe_make M F hr hg hm hb .nil (pass0 (X := X)) ha hdb he hpl) fun σ H Q ⟨S, σ2, hr, rs, w⟩ => stepA hc hr rs w fun xs S1 vs H1 hr1 k1 rs1 r1 w => fun a dx n nd ne => by
    obtain ⟨h1, h2, h3⟩ := rel_made hc (ci := ci) hr1 k1 n nd ne
    rw [hC] at h1 h2 h3
    have w := w a (hr1.free n)
    rw [hini] at w
    rw [List.append_nil]
    have r2 : Paired (RepX X.K (upd (upd H1 dx (.own a)) a (.ins C dx [])) (su S1 a (.ins ci []))) (.d (.ref a) :: xs) (.ref a :: vs) := by
      refine .cons rfl (Paired.mapP r1 fun y v q => ?_)
      have q := RepX.keep h3 hr1 q
      cases y with
      | d y => exact q
      | vl ds => obtain ⟨b, us, e, z, z', q⟩ := q; exact ⟨b, us, e, z, by rw [su_ne (fun e => by subst e; rw [upd_same] at z; cases z)]; exact z', q⟩
      | bw ds => obtain ⟨b, us, e, z, z', q⟩ := q; exact ⟨b, us, e, z, by rw [su_ne (fun e => by subst e; rw [upd_same] at z; cases z)]; exact z', q⟩
      | vd ds => obtain ⟨b, us, e, z, z', q⟩ := q; exact ⟨b, us, e, z, by rw [su_ne (fun e => by subst e; rw [upd_same] at z; cases z)]; exact z', q⟩
      | bd ds => obtain ⟨b, us, e, z, z', q⟩ := q; exact ⟨b, us, e, z, by rw [su_ne (fun e => by subst e; rw [upd_same] at z; cases z)]; exact z', q⟩
      | fz ds =>
        obtain ⟨b, us, e, z, q⟩ := q
        refine ⟨b, us, e, ?_, q⟩
        rcases z with ⟨o, z, z'⟩ | z
        · exact .inl ⟨o, z, by rw [su_ne (fun e => by subst e; rw [upd_same] at z; cases z)]; exact z'⟩
        · exact .inr z
      | st ds => exact q.elim
    refine ⟨by have := hn _ _ _ w; simpa [Paired.length r1] using this, _, _, h1, r2, hc _ _ _ _ _ (fun z S3 ⟨ez, z', e, q⟩ => ?_) w⟩
    subst ez
    cases e
    intro v H' hr' k' r'
    cases r'.1
    refine ⟨rfl, KVof.of (k := h2) q _ _ hr' k' ⟨rfl, fun e => by cases e⟩⟩
end
end
end DL

/-! DL7b: dict displays, get. -/
namespace DL
open PySem L2 PySem.Spec PyProof.Rows
theorem dic_of {K : Frag} {cx : Cls2} {H : Hp} {c : Cn} {kvs : List (D × D)} {v : V} (e : dicOf c = some kvs) (h : CnR K cx H c v) : ∃ a ks, v = .ref a ∧ Rd H a (.dK ks) ∧ DicR K H kvs ks := by
  cases c with
  | k kvs' => cases e; obtain ⟨a, ks, h1, h2, h3⟩ := h; exact ⟨a, ks, h1, .inl h2, h3⟩
  | kf kvs' => cases e; obtain ⟨a, ks, o, h1, h2, h3⟩ := h; exact ⟨a, ks, h1, .inr ⟨o, h2⟩, h3⟩
  | _ => cases e
section
variable {X : Cx} {T : Tbl} {c : Nat → List Vx → Hs → VK2 → Prop} {cx : Cls2} (hc : CalMono c)
include hc
theorem get_fin {K : Frag} {S S3 : Hs} {H H3 : Hp} {Q : VK} {kvs : List (D × D)} {ks : List (Key × V)} {ky dz : D} {zv : V} (hr3 : Rel K cx S3 H3) (k3 : Keep S S3 H H3) (hky : keyD ky = true) (rd : DicR K H3 kvs ks) (rz : RepV K H3 dz zv) (q : kE K cx S H Q [.d ((dget kvs ky).getD dz)] S3) :
    Q ((valV ks (keyK ky)).getD zv) H3 := by
  obtain ⟨x, e, q⟩ := q
  cases e
  obtain ⟨g1, g2⟩ := DicR.get hky rd
  cases hq : dget kvs ky with
  | none =>
    rw [hq] at q
    rw [g2 hq]
    exact fin_d (KVof.of k3 q) hr3 rz
  | some dv =>
    rw [hq] at q
    obtain ⟨v, h1, h2⟩ := g1 dv hq
    rw [h1]
    exact fin_d (KVof.of k3 q) hr3 h2
theorem snd_get1 {o k : R} {eo ek : Expr} {apos cpos : Pos} (hu : X.A.units + 1 < cLine) (ho : PE X eo (liftE X.K cx (wpE T c o))) (hk : PE X ek (liftE X.K cx (wpE T c k))) (m : M1 X eo "get" apos ek cpos) :
    PE X (.Call (.Attribute eo "get" apos) [ek] [] cpos) (liftE X.K cx (wpE T c (.get1 o k))) :=
  peImp (pe_dget1 hu ho hk m) fun σ H Q ⟨S, σ2, hr, rs, w⟩ => stepE hc hr rs w fun x S1 v H1 hr1 k1 rs1 r1 ⟨wv, w⟩ => by
    obtain ⟨cn, ⟨kvs, ek⟩, hcn⟩ := view_of hr1 r1.1 wv
    obtain ⟨a, ks, rfl, ha, _⟩ := dic_of ek hcn
    refine ⟨a, rfl, .inl ⟨ks, ha⟩, stepE hc hr1 rs1 w fun y S2 yv H2 hr2 k2 rs2 r2 w => ?_⟩
    obtain ⟨cn, ⟨kvs', ky, ek', rfl, hky, q⟩, hcn⟩ := view_of hr2 (r1.1.keep k2 hr1) w
    obtain ⟨a', ks', e, ha', rd⟩ := dic_of ek' hcn
    cases e
    have ey := key_rel hky r2.1
    subst ey
    exact ⟨valV ks' (keyK ky), .inl ⟨ks', keyK ky, ha', rfl, rfl⟩, get_fin hc hr2 (k1.trans k2) hky rd (dz := .non) rfl q⟩
theorem snd_get2 {o k d : R} {eo ek ed : Expr} {apos cpos : Pos} (hu : X.A.units + 1 < cLine) (ho : PE X eo (liftE X.K cx (wpE T c o))) (hk : PE X ek (liftE X.K cx (wpE T c k))) (hd : PE X ed (liftE X.K cx (wpE T c d))) (m : M2 X eo "get" apos ek ed cpos) :
    PE X (.Call (.Attribute eo "get" apos) [ek, ed] [] cpos) (liftE X.K cx (wpE T c (.get2 o k d))) :=
  peImp (pe_dget2 hu ho hk hd m) fun σ H Q ⟨S, σ2, hr, rs, w⟩ => stepE hc hr rs w fun x S1 v H1 hr1 k1 rs1 r1 ⟨wv, w⟩ => by
    obtain ⟨cn, ⟨kvs, ek⟩, hcn⟩ := view_of hr1 r1.1 wv
    obtain ⟨a, ks, rfl, ha, _⟩ := dic_of ek hcn
    refine ⟨a, rfl, .inl ⟨ks, ha⟩, stepE hc hr1 rs1 w fun y S2 yv H2 hr2 k2 rs2 r2 w => stepE hc hr2 rs2 w fun z S3 zv H3 hr3 k3 rs3 r3 w => ?_⟩
    obtain ⟨cn, ⟨kvs', ky, dz, ek', rfl, rfl, hky, q⟩, hcn⟩ := view_of hr3 ((r1.1.keep k2 hr1).keep k3 hr2) w
    obtain ⟨a', ks', e, ha', rd⟩ := dic_of ek' hcn
    cases e
    have ry := RepV.keep (k3.tups hr2) _ _ r2.1
    have ey := key_rel hky ry
    subst ey
    exact ⟨valV ks' (keyK ky), .inl ⟨ks', keyK ky, ha', rfl, rfl⟩, get_fin hc hr3 ((k1.trans k2).trans k3) hky rd r3.1 q⟩
/-! pairs -/
/-- the pairs told: alternately keys, values -/
def PrR (K : Frag) (H : Hp) (S : Hs) : List Vx → List (V × V) → Prop
  | [], ps => ps = []
  | x :: y :: r, ps => ∃ u v q, ps = (u, v) :: q ∧ RepX K H S x u ∧ RepX K H S y v ∧ PrR K H S r q
  | _, _ => False
def isPr : R → Bool
  | .nil => true
  | .pr _ _ r => isPr r
  | _ => false
def prTrs (K : Frag) (cx : Cls2) (T : Tbl) (c : Nat → List Vx → Hs → VK2 → Prop) : R → List (TE × TE)
  | .pr k v r => (liftE K cx (wpE T c k), liftE K cx (wpE T c v)) :: prTrs K cx T c r
  | _ => []
theorem prs_ok {K : Frag} {σ2 : Sl} {σ : L2.St} : ∀ (r : R), isPr r = true → ∀ (S : Hs) (H : Hp) (P : LK2) (Q : List (V × V) → Hp → Prop), Rel K cx S H → RelX K S H σ2 σ → wpE T c r σ2 S P →
    (∀ xs S' ps H', Rel K cx S' H' → Keep S S' H H' → PrR K H' S' xs ps → P xs S' → Q ps H') → tPairs (prTrs K cx T c r) σ H Q
  | .nil, _, S, H, P, Q, hr, rs, w, q => q [] S [] H hr .refl rfl w
  | .pr k v r, h, S, H, P, Q, hr, rs, w, q => stepE hc hr rs w fun x S1 xv H1 hr1 k1 rs1 r1 w => stepE hc hr1 rs1 w fun y S2 yv H2 hr2 k2 rs2 r2 w => by
    obtain ⟨d, S3, w, hr3, k3, rd, _⟩ := rel_box hc hr2 k2 r2 w
    refine prs_ok r h S3 H2 _ _ hr3 (rs1.keep k3 hr1) w fun xs S' ps H' hr' k' pr p => q (x :: .d d :: xs) S' _ H' hr' ((k1.trans k3).trans k') ⟨xv, yv, ps, rfl, (r1.1.keep k3 hr1).keep k' hr3, RepV.keep (k'.tups hr3) _ _ rd, pr⟩ p
theorem prs_dic {K : Frag} {H : Hp} {S : Hs} : ∀ (n : Nat) (xs : List Vx) (ps : List (V × V)) (kvs : List (D × D)), xs.length ≤ n → PrR K H S xs ps → prsOf xs = some kvs → ∃ ks : List (Key × V), ps = ks.map (fun kv => (kV kv.1, kv.2)) ∧ DicR K H kvs ks
  | _, [], ps, kvs, _, pr, e => by
    cases e
    have pr : ps = [] := pr
    subst pr
    exact ⟨[], rfl, .nil⟩
  | _, [x], ps, kvs, _, pr, e => by cases pr
  | 0, x :: y :: r, ps, kvs, hl, pr, e => by simp at hl
  | n + 1, x :: y :: r, ps, kvs, hl, pr, e => by
    obtain ⟨u, v, q, rfl, ru, rv, pr⟩ := pr
    cases x with
    | d k =>
      cases y with
      | d z =>
        have e : (match keyD k, prsOf r with | true, some kvs => some ((k, z) :: kvs) | _, _ => none) = some kvs := e
        split at e
        · rename_i es hk he
          cases e
          obtain ⟨ks, rfl, rr⟩ := prs_dic n r q es (by simp at hl; omega) pr he
          have ek := key_rel hk ru
          subst ek
          exact ⟨(keyK k, v) :: ks, rfl, .cons ⟨keyR_mk hk, rv⟩ rr⟩
        · cases e
      | _ => cases e
    | _ => cases e
theorem mrg_rel {K : Frag} {H : Hp} : ∀ {more : List (D × D)} {ms : List (Key × V)} {kvs : List (D × D)} {ks : List (Key × V)}, (∀ p ∈ more, keyD p.1 = true) → DicR K H more ms → DicR K H kvs ks → DicR K H (mrgD kvs more) (mergeK ks ms)
  | [], _, kvs, ks, _, .nil, r => r
  | p :: more, b :: bs, kvs, ks, hk, .cons h t, r => by
    have e := (KeyR.of h.1).2
    show DicR K H (mrgD (dput kvs p.1 p.2) more) (mergeK (putK ks b.1 b.2) bs)
    refine mrg_rel (more := more) (fun q hq => hk q (List.mem_cons_of_mem _ hq)) t ?_
    rw [e]
    exact r.put (hk p List.mem_cons_self) h.2
theorem prs_key : ∀ (n : Nat) (xs : List Vx) (kvs : List (D × D)), xs.length ≤ n → prsOf xs = some kvs → ∀ p ∈ kvs, keyD p.1 = true
  | _, [], kvs, _, e => by cases e; simp
  | _, [x], kvs, _, e => by cases x <;> cases e
  | 0, x :: y :: r, kvs, hl, e => by simp at hl
  | n + 1, x :: y :: r, kvs, hl, e => by
    cases x with
    | d k =>
      cases y with
      | d z =>
        have e : (match keyD k, prsOf r with | true, some kvs => some ((k, z) :: kvs) | _, _ => none) = some kvs := e
        split at e
        · rename_i es hk he
          cases e
          intro p hp
          rcases List.mem_cons.mp hp with rfl | hp
          · exact hk
          · exact prs_key n r es (by simp at hl; omega) he p hp
        · cases e
      | _ => cases e
    | _ => cases e
theorem snd_dctp {ps : R} {keys : List (Option Expr)} {values : List Expr} {pos : Pos} (hp : isPr ps = true) (h : PPs X pos keys values (prTrs X.K cx T c ps)) (hall : keys.all (·.isSome) = true) (hl : keys.length = values.length) (h0 : keys ≠ []) (h15 : keys.length ≤ 15) :
    PE X (.Dict keys values pos) (liftE X.K cx (wpE T c (.dctp ps))) :=
  peImp (pe_disp h hall hl h0 h15) fun σ H Q ⟨S, σ2, hr, rs, w⟩ => fun p n => by
    have k0 : Keep S S H (upd H p (.dK [])) := Keep.new n
    have hr0 : Rel X.K cx S (upd H p (.dK [])) := hr.upd0 (hr.free n) (tupS_new n)
    refine prs_ok hc ps hp S _ _ _ hr0 (rs.keep k0 hr) w fun xs S1 vs H1 hr1 k1 pr ⟨kvs, e, hz, q⟩ => ?_
    obtain ⟨hp1, sp1⟩ := k1.kp p _ upd_same (hr.free n)
    obtain ⟨ks, rfl, rd⟩ := prs_dic hc _ xs vs kvs (Nat.le_refl _) pr e
    obtain ⟨x, ex, q⟩ := q
    cases ex
    have t : TupS X.K H1 (upd H1 p (.dK (mergeK [] ks))) := tupS_upd fun o e => by rw [hp1] at e; cases e; rfl
    refine ⟨hp1, ks, rfl, by rw [← DicR.length rd]; exact hz, q _ _ (hr1.upd0 sp1 t) ⟨fun b o e' nb => ?_, fun b e' => ?_⟩ ⟨⟨p, _, rfl, upd_same, sp1, (mrg_rel hc (prs_key hc _ xs kvs (Nat.le_refl _) e) rd .nil).keep t⟩, fun _ => ⟨p, rfl, n⟩⟩⟩
    · have ne : b ≠ p := fun z => by subst z; rw [n] at e'; cases e'
      obtain ⟨g1, g2⟩ := (k0.trans k1).kp b o e' nb
      exact ⟨by rw [upd_ne ne]; exact g1, g2⟩
    · by_cases ne : b = p
      · subst ne; exact n
      · rw [upd_ne ne] at e'
        exact (k0.trans k1).up b e'
end
end DL

/-! DL7d: dict(xs) of a list of pairs of ints. -/
namespace DL
open PySem L2 PySem.Spec PyProof.Rows
section
variable {X : Cx} {cx : Cls2}
theorem pairs_refs0 {K : Frag} {H : Hp} {ps : List (Int × Int)} {vs : List V} (h : Paired (fun (p : Int × Int) (v : V) => ∃ t, v = .ref t ∧ SqT K H t [.int p.1, .int p.2]) ps vs) :
    ∃ as : List Addr, vs = as.map V.ref ∧ Paired (fun (t : Addr) (kv : Key × V) => SqT K H t [kV kv.1, kv.2]) as (ps.map fun p => ((.inl p.1 : Key), V.int p.2)) := by
  induction h with
  | nil => exact ⟨[], rfl, .nil⟩
  | cons h _ ih =>
    obtain ⟨t, rfl, q⟩ := h
    obtain ⟨as, rfl, q'⟩ := ih
    exact ⟨t :: as, rfl, .cons q q'⟩
theorem dic_prs0 {K : Frag} {H : Hp} : ∀ ps : List (Int × Int), DicR K H (ps.map fun p => (D.int p.1, D.int p.2)) (ps.map fun p => ((.inl p.1 : Key), V.int p.2))
  | [] => .nil
  | _ :: ps => .cons ⟨rfl, rfl⟩ (dic_prs0 ps)
theorem mrg_rel0 {K : Frag} {H : Hp} : ∀ {more : List (D × D)} {ms : List (Key × V)} {kvs : List (D × D)} {ks : List (Key × V)}, (∀ p ∈ more, keyD p.1 = true) → DicR K H more ms → DicR K H kvs ks → DicR K H (mrgD kvs more) (mergeK ks ms)
  | [], _, kvs, ks, _, .nil, r => r
  | p :: more, b :: bs, kvs, ks, hk, .cons h t, r => by
    have e := (KeyR.of h.1).2
    show DicR K H (mrgD (dput kvs p.1 p.2) more) (mergeK (putK ks b.1 b.2) bs)
    refine mrg_rel0 (more := more) (fun q hq => hk q (List.mem_cons_of_mem _ hq)) t ?_
    rw [e]
    exact r.put (hk p List.mem_cons_self) h.2
theorem call1_dictP (hcalm : X.calm = true) : CallR X (.type "dict") (c1of X.K cx .dictP) := by
  intro pins s σ H xs us Q I r w
  obtain ⟨v, rfl, S, a, hr, ra, w⟩ := w
  obtain ⟨c, w, hc⟩ := view_of hr ra w
  obtain ⟨ps, rfl, w⟩ := w
  obtain ⟨p, vs, rfl, hp, r1⟩ := hc
  obtain ⟨as, rfl, pa⟩ := pairs_refs0 (reps_pairs r1)
  have hk : ∀ q ∈ (ps.map fun p => (D.int p.1, D.int p.2)), keyD q.1 = true := fun q hq => by
    obtain ⟨z, _, rfl⟩ := List.mem_map.mp hq; rfl
  exact call_dictP hcalm pins s σ H _ us Q I r ⟨p, as, ps.map fun p => ((.inl p.1 : Key), V.int p.2), rfl, SqL.of hp, pa, fun q hq =>
    w _ _ (hr.upd0 (hr.free hq) (tupS_new hq)) (.new hq) ⟨⟨q, _, rfl, upd_same, hr.free hq, (mrg_rel0 hk (dic_prs0 ps) .nil).keep (tupS_new hq)⟩, fun _ => ⟨q, rfl, hq⟩⟩⟩
end
end DL

/-! DL8: mutators as expressions, what is walked, comprehensions. -/
namespace DL
open PySem L2 PySem.Spec PyProof.Rows
theorem mout_rel {K : Frag} {cx : Cls2} {S : Hs} {H H' : Hp} {a : Addr} {c' : Cn} {o' ob : O} (hr : Rel K cx S H) (e : S a = some ob) (m : MOut K cx H a c' H') (ho : c'.o = some o') : Rel K cx (su S a o') H' ∧ Keep S (su S a o') H H' := by
  obtain ⟨h', rfl, hc, hs⟩ := m
  refine ⟨hr.upd1 (tupS_upd hs) ?_, ⟨fun b o z n => ?_, fun b z => ?_⟩⟩
  · cases c' with
    | l ds => cases ho; obtain ⟨p, vs, e, h, r⟩ := hc; cases e; exact ⟨vs, h, r⟩
    | k ds => cases ho; obtain ⟨p, vs, e, h, r⟩ := hc; cases e; exact ⟨vs, h, r⟩
    | kn ds => cases ho; obtain ⟨p, vs, e, h, r⟩ := hc; cases e; exact ⟨vs, h, r⟩
    | _ => cases ho
  · have ne : b ≠ a := fun z => by subst z; rw [e] at n; cases n
    exact ⟨by rw [upd_ne ne]; exact z, by rw [su_ne ne]; exact n⟩
  · by_cases ne : b = a
    · subst ne; rw [upd_same] at z; cases z
    · rw [upd_ne ne] at z; exact z
section
variable {X : Cx} {T : Tbl} {c : Nat → List Vx → Hs → VK2 → Prop} {cx : Cls2} (hc : CalMono c)
include hc
theorem snd_hm {m : M} {o as : R} {eo e : Expr} {es : List Expr} (hp : ∀ to t, PE X eo to → PA X es t → PE X e (tBM X.K "list" (mOf X.K cx m) to t)) (ho : PE X eo (liftE X.K cx (wpE T c o))) (ha : PA X es (liftA X.K cx (wpE T c as))) :
    PE X e (liftE X.K cx (wpE T c (.hm m o as))) :=
  peImp (hp _ _ ho ha) fun σ H Q ⟨S, σ2, hr, rs, w⟩ => stepE hc hr rs w fun x S0 v H1 hr0 k0 rs0 r0 w => by
    obtain ⟨dd, S1, ⟨a, ds, ex, ed, w⟩, hr1, k1, r1, _⟩ := rel_box hc hr0 k0 r0 w
    subst ex
    cases r1
    have rs1 := rs.keep k1 hr
    obtain ⟨vs0, h0, _⟩ := hr1 a _ ed
    refine ⟨.inl ⟨rfl, _, SqL.of h0⟩, stepA hc hr1 rs1 w fun xs S2 vs H2 hr2 k2 rs2 r2 ⟨ob, e2, w⟩ => ?_⟩
    have z := hr2 a ob e2
    have hcn : CnR X.K cx H2 ob.cn (.ref a) := by
      cases ob with
      | lst ds => obtain ⟨us, h, r⟩ := z; exact ⟨a, us, rfl, h, r⟩
      | dic ds => obtain ⟨us, h, r⟩ := z; exact ⟨a, us, rfl, h, r⟩
      | fdc ds y => obtain ⟨h, o, ks, e1, r⟩ := z; subst e1; exact ⟨a, ks, o, rfl, h, r⟩
      | dn ds => obtain ⟨us, h, r⟩ := z; exact ⟨a, us, rfl, h, r⟩
      | fdn ds y ks => obtain ⟨h, o, e1, r⟩ := z; subst e1; exact ⟨a, ks, o, rfl, h, r⟩
      | ins ci fs => exact ⟨a, rfl, z⟩
    refine ⟨S2, ob.cn, a, xs, hr2, rfl, hcn, r2, mutC_mono (fun c' r ⟨o', ho', x, e, q⟩ H' v' mo rv => ?_) w⟩
    cases e
    obtain ⟨h1, h2⟩ := mout_rel hr2 e2 mo ho'
    exact KVof.of (k1.trans k2) q _ _ h1 h2 ⟨rv, fun e => by cases e⟩
omit hc in
theorem DicR.drop {K : Frag} {H : Hp} {x : D} (hx : keyD x = true) : ∀ {kvs : List (D × D)} {ks : List (Key × V)}, DicR K H kvs ks → DicR K H (ddrop kvs x) (dropK ks (keyK x))
  | _, _, .nil => .nil
  | (k, y) :: r, (k', v) :: r', .cons h t => by
    have ih := DicR.drop hx t
    obtain ⟨hk, hv⟩ := h
    obtain ⟨h1, h2⟩ := KeyR.of hk
    have e : eqB k x = decide (keyK k = keyK x) := eqB_key h1 hx
    have h2 : k' = keyK k := h2
    unfold ddrop dropK at ih ⊢
    rw [List.filter_cons, List.filter_cons]
    by_cases q : keyK k = keyK x
    · rw [if_neg (by show ¬ (!eqB k x) = true; rw [e, decide_eq_true q]; decide), if_neg (by show ¬ decide (k' ≠ keyK x) = true; rw [decide_eq_true_eq]; exact fun z => z (h2.trans q))]
      exact ih
    · rw [if_pos (by show (!eqB k x) = true; rw [e, decide_eq_false q]; rfl), if_pos (by show decide (k' ≠ keyK x) = true; rw [decide_eq_true_eq]; exact fun z => q (h2.symm.trans z))]
      exact .cons ⟨hk, hv⟩ ih
theorem snd_dpop {o k : R} {eo ek : Expr} {apos cpos : Pos} (ho : PE X eo (liftE X.K cx (wpE T c o))) (hk : PE X ek (liftE X.K cx (wpE T c k))) (m : M1 X eo "pop" apos ek cpos) :
    PE X (.Call (.Attribute eo "pop" apos) [ek] [] cpos) (liftE X.K cx (wpE T c (.dpop o k))) :=
  peImp (pe_dpop1 ho hk m) fun σ H Q ⟨S, σ2, hr, rs, w⟩ => stepE hc hr rs w fun x S1 v H1 hr1 k1 rs1 r1 ⟨a, kvs0, ex, ea, w⟩ => by
    subst ex
    cases r1.1
    obtain ⟨ks0, h0, _⟩ := hr1 a _ ea
    refine ⟨a, rfl, .inl ⟨ks0, .inl h0⟩, stepE hc hr1 rs1 w fun y S2 yv H2 hr2 k2 rs2 r2 ⟨kvs, ky, dv, ey, hky, e2, hg, q⟩ => ?_⟩
    subst ey
    obtain ⟨ks, h2, rd⟩ := hr2 a _ e2
    have ey := key_rel hky r2.1
    subst ey
    obtain ⟨vv, hv, rv⟩ := (DicR.get hky rd).1 dv hg
    refine ⟨ks, keyK ky, vv, h2, rfl, hv, ?_⟩
    have mo : MOut X.K cx H2 a (.k (ddrop kvs ky)) (upd H2 a (.dK (dropK ks (keyK ky)))) := mout_k h2 (DicR.drop hky rd)
    obtain ⟨h3, h4⟩ := mout_rel hr2 e2 mo rfl
    obtain ⟨x, e, q⟩ := q
    cases e
    exact KVof.of (k1.trans k2) q _ _ h3 h4 ⟨RepV.keep (dic_tups h2) _ _ rv, fun e => by cases e⟩
theorem snd_hm0 {m : M} {o : R} {eo e : Expr} (hp : ∀ to, PE X eo to → PE X e (tBM0 X.K "list" (mOf X.K cx m) to)) (ho : PE X eo (liftE X.K cx (wpE T c o))) :
    PE X e (liftE X.K cx (wpE T c (.hm m o .nil))) :=
  peImp (hp _ ho) fun σ H Q ⟨S, σ2, hr, rs, w⟩ => stepE hc hr rs w fun x S0 v H1 hr0 k0 rs0 r9 w => by
    obtain ⟨dd, S1, ⟨a, ds, ex, ed, w⟩, hr1, k1, r1, _⟩ := rel_box hc hr0 k0 r9 w
    subst ex
    cases r1
    obtain ⟨vs0, h0, r0⟩ := hr1 a _ ed
    obtain ⟨ob, e2, w⟩ := w
    rw [ed] at e2; cases e2
    refine ⟨.inl ⟨rfl, _, SqL.of h0⟩, S1, .l ds, a, [], hr1, rfl, ⟨a, vs0, rfl, h0, r0⟩, .nil, mutC_mono (fun c' r ⟨o', ho', x, e, q⟩ H' v' mo rv => ?_) w⟩
    cases e
    obtain ⟨h1, h2⟩ := mout_rel hr1 ed mo ho'
    exact KVof.of k1 q _ _ h1 h2 ⟨rv, fun e => by cases e⟩
end

/-! ### what is walked -/
def OwnA (σ2 : Sl) (σ : L2.St) (b : Addr) : Prop := ∃ (i : Nat) (x : Vx), σ2[i]? = some (some x) ∧ own x = true ∧ σ[i]? = some (some (.ref b))
def lentB : Vx → Bool
  | .vl _ => true
  | .bw _ => true
  | _ => false
/-- the place of a slot's list that is walked -/
def srcA : R → Sl → L2.St → Addr → Prop
  | .itv i, σ2, σ, b => ∃ x : Vx, σ2[i]? = some (some x) ∧ lentB x = true ∧ σ[i]? = some (some (.ref b))
  | .enu a, σ2, σ, b => srcA a σ2 σ b
  | .zip a a', σ2, σ, b => srcA a σ2 σ b ∨ srcA a' σ2 σ b
  | _, _, _, _ => False
section
variable (K : Frag) (cx : Cls2)
/-- while what is at Pz stands, each turn yields the next item -/
def Later (S1 : Hs) (H1 : Hp) (ok : Sl → Hs → Prop) (G : Hs → Hp → Prop) (P : Addr → Prop) : Prop :=
  ∀ Pz : Addr → Prop, (∀ b, S1 b = none → H1 b ≠ none → P b → Pz b) → ∀ S H σ2, Rel K cx S H → (∀ b, Pz b → S b = none ∧ H b = H1 b) → ok σ2 S → G S H
def ItG (J : It) (items : List D) (S : Hs) (H : Hp) : Prop := ∀ i : Nat, (∀ d, items[i]? = some d → J.go i H ∧ ∀ x H', J.yld i H x H' → Rel K cx S H' ∧ Keep S S H H' ∧ RepV K H' d x) ∧ (items.length = i → J.stop i H)
def liftI (it : R) (w : WI) : TI := fun σ H R => ∃ S σ2, Rel K cx S H ∧ RelX K S H σ2 σ ∧ w σ2 S fun J2 S1 => ∀ J H1, Rel K cx S1 H1 → Keep S S1 H H1 → Later K cx S1 H1 J2.ok (ItG K cx J J2.items) (fun b => OwnA σ2 σ b → srcA it σ2 σ b) → R J H1
/-- a source: a list or a tuple at an address -/
def SrcL (S1 : Hs) (H1 : Hp) (J2 : It2) (P : Addr → Prop) (a : Addr) : Prop := J2.tu = false ∧ (∃ vs, SqL K H1 a vs) ∧ Later K cx S1 H1 J2.ok (fun _ H => ∃ vs, SqL K H a vs ∧ RepL K H J2.items vs) P
def SrcT (S1 : Hs) (H1 : Hp) (J2 : It2) (P : Addr → Prop) (a : Addr) : Prop := J2.tu = true ∧ (∃ vs, SqT K H1 a vs) ∧ Later K cx S1 H1 J2.ok (fun _ H => ∃ vs, SqT K H a vs ∧ RepL K H J2.items vs) P
def liftSrc (it : R) (w : WI) : TE := fun σ H Q => ∃ S σ2, Rel K cx S H ∧ RelX K S H σ2 σ ∧ w σ2 S fun J2 S1 => ∀ a H1, Rel K cx S1 H1 → Keep S S1 H H1 →
  (SrcL K cx S1 H1 J2 (fun b => OwnA σ2 σ b → srcA it σ2 σ b) a ∨ SrcT K cx S1 H1 J2 (fun b => OwnA σ2 σ b → srcA it σ2 σ b) a) → Q (.ref a) H1
end
section
variable {K : Frag} {cx : Cls2} {S S1 : Hs} {H H1 : Hp} {σ2 : Sl} {σ : L2.St}
/-- the address of a slot's own list holds no tuple -/
theorem ownA_not (rs : RelX K S H σ2 σ) {b : Addr} (h : OwnA σ2 σ b) : ∃ o, H b = some o ∧ seqish o = false := by
  obtain ⟨i, x, e, ho, e2⟩ := h
  obtain ⟨v, e3, r⟩ := rs.2 i x e
  rw [e2] at e3; cases e3
  cases x with
  | vl ds => obtain ⟨a, vs, e, h, _⟩ := r; cases e; exact ⟨_, h, rfl⟩
  | vd ds => obtain ⟨a, vs, e, h, _⟩ := r; cases e; exact ⟨_, h, rfl⟩
  | _ => cases ho
theorem later_tup (hr1 : Rel K cx S1 H1) (rs1 : RelX K S1 H1 σ2 σ) {P Pz : Addr → Prop} (hP : ∀ b, ¬ OwnA σ2 σ b → P b) (hz : ∀ b, S1 b = none → H1 b ≠ none → P b → Pz b) {H' : Hp} {S' : Hs} (k : ∀ b, Pz b → S' b = none ∧ H' b = H1 b) : TupS K H1 H' := by
  intro t vs hs
  have key : ∀ o, H1 t = some o → seqish o = true → H' t = some o := fun o e q => by
    refine ((k t (hz t ?_ (by rw [e]; simp) (hP t fun z => ?_))).2).trans e
    · cases z : S1 t with
      | none => rfl
      | some u =>
        obtain ⟨h, h1, h2⟩ := (hr1 t u z).some
        rw [e] at h1; cases h1
        rw [q] at h2; cases h2
    · obtain ⟨o', h1, h2⟩ := ownA_not rs1 z
      rw [e] at h1; cases h1
      rw [q] at h2; cases h2
  rcases hs with (hs | ⟨o, hs⟩) | hs
  · exact .inl (.inl (key _ hs rfl))
  · exact .inl (.inr ⟨o, key _ hs rfl⟩)
  · exact .inr hs
theorem src_of {it : R} {l : Bool} {x : Vx} {v : V} {Q : V → Hp → Prop} {H0 : Hp} {S0 : Hs} (rs0 : RelX K S0 H0 σ2 σ) (hr1 : Rel K cx S1 H1) (k1 : Keep S0 S1 H0 H1) (rs1 : RelX K S1 H1 σ2 σ) (r1 : RepX K H1 S1 x v)
    (hown : ∀ a, v = .ref a → lentB x = true → OwnA σ2 σ a → srcA it σ2 σ a)
    (w : srcX l x S1 fun J2 S2 => ∀ a H2, Rel K cx S2 H2 → Keep S0 S2 H0 H2 → (SrcL K cx S2 H2 J2 (fun b => OwnA σ2 σ b → srcA it σ2 σ b) a ∨ SrcT K cx S2 H2 J2 (fun b => OwnA σ2 σ b → srcA it σ2 σ b) a) → Q (.ref a) H2) : Q v H1 := by
  have hP : ∀ b, ¬ OwnA σ2 σ b → (OwnA σ2 σ b → srcA it σ2 σ b) := fun b h z => (h z).elim
  have lst : ∀ {a : Addr} {vs : List V} {ds : List D}, H1 a = some (.lst vs) → S1 a = none → RepL K H1 ds vs → (OwnA σ2 σ a → srcA it σ2 σ a) → SrcL K cx S1 H1 ⟨ds, fun _ _ => True, false⟩ (fun b => OwnA σ2 σ b → srcA it σ2 σ b) a :=
    fun {a vs ds} h n r p => ⟨rfl, ⟨vs, SqL.of h⟩, fun Pz hz S H σ' hr k _ => ⟨vs, SqL.of ((k a (hz a n (by rw [h]; simp) p)).2.trans h), r.keep (later_tup hr1 rs1 hP hz k)⟩⟩
  unfold srcX at w
  split at w
  · obtain ⟨t, vs, rfl, h, r⟩ := r1
    exact w t H1 hr1 k1 (.inr ⟨rfl, ⟨vs, h⟩, fun Pz hz S H σ' hr k _ => ⟨vs, later_tup hr1 rs1 hP hz k _ _ h, r.keep (later_tup hr1 rs1 hP hz k)⟩⟩)
  · cases r1
    obtain ⟨ds, e, w⟩ := w
    obtain ⟨vs, h, _⟩ := hr1 _ _ e
    exact w _ H1 hr1 k1 (.inl ⟨rfl, ⟨vs, SqL.of h⟩, fun Pz hz S H σ' hr k ok => by obtain ⟨vs', h', r'⟩ := hr _ _ ok; exact ⟨vs', SqL.of h', r'⟩⟩)
  · obtain ⟨a, vs, rfl, h, n, r⟩ := r1
    exact w a H1 hr1 k1 (.inl (lst h n r (hown a rfl rfl)))
  · obtain ⟨a, vs, rfl, h, n, r⟩ := r1
    exact w a H1 hr1 k1 (.inl (lst h n r (hown a rfl rfl)))
  · obtain ⟨a, vs, rfl, h, r⟩ := r1
    refine w a H1 hr1 k1 (.inl ⟨rfl, ⟨vs, fz_sql h⟩, fun Pz hz S H σ' hr k _ => ⟨vs, ?_, r.keep (later_tup hr1 rs1 hP hz k)⟩⟩)
    rcases h with ⟨o, h, n⟩ | h
    · refine .inl (.inr ⟨o, (k a (hz a n (by rw [h]; simp) fun z => ?_)).2.trans h⟩)
      obtain ⟨o', h1, h2⟩ := ownA_not rs1 z
      rw [h] at h1; cases h1
      cases h2
    · exact sqL_none h
  · exact w.elim
end
section
variable {X : Cx} {T : Tbl} {c : Nat → List Vx → Hs → VK2 → Prop} {cx : Cls2} (hc : CalMono c)
include hc
theorem src_v {i : Nat} {x : Str} {pos : Pos} (hN : X.N[i]? = some x) (hv : Vis X.env.scope x) (h1 : (x == ("__debug__" : Str)) = false) (h2 : (x == ("__classdict__" : Str)) = false) : PE X (.Name x pos) (liftSrc X.K cx (.itv i) (wpI T c (.itv i))) :=
  peImp (pe_var hN hv h1 h2) fun σ H Q ⟨S, σ2, hr, rs, x, e, w⟩ => by
    obtain ⟨v, h1, h2⟩ := rs.2 i x e
    exact ⟨v, h1, src_of (it := .itv i) rs hr .refl rs h2 (fun a ea hl _ => ⟨x, e, hl, by rw [h1, ea]⟩) w⟩
theorem src_e {a : R} {ea : Expr} (ha : PE X ea (liftE X.K cx (wpE T c a))) : PE X ea (liftSrc X.K cx (.ite a) (wpI T c (.ite a))) :=
  peImp ha fun σ H Q ⟨S, σ2, hr, rs, w⟩ => stepE hc hr rs w fun x S1 v H1 hr1 k1 rs1 r1 w => by
    refine src_of rs hr1 k1 rs1 r1.1 (fun a ea hl ho => ?_) w
    cases x with
    | vl ds =>
      obtain ⟨a', e, n⟩ := r1.2 rfl
      rw [ea] at e; cases e
      obtain ⟨o, h1, _⟩ := ownA_not rs ho
      rw [n] at h1; cases h1
    | bw ds => exact w.elim
    | _ => cases hl
/-- a list or a tuple walked -/
def iAny (K : Frag) (tl : TE) : TI := fun σ H R => tl σ H fun x H1 => ∃ a, x = .ref a ∧ (((∃ xs, SqL K H1 a xs) ∧ R (Itl K a) H1) ∨ ((∃ xs, SqT K H1 a xs) ∧ R (Itt K a) H1))
omit hc in
theorem pi_any {tg l : Expr} {tl : TE} (hl : PE X l tl) : PI X tg l (iAny X.K tl) := by
  refine ⟨fun pins s σ H R I h => ?_⟩
  refine thn (hl.run pins s σ H _ I h) fun v s1 ⟨x, H1, I1, r1, q1⟩ => ?_
  obtain ⟨a, e, q⟩ := q1
  subst e
  cases r1
  rcases q with ⟨⟨xs, hq⟩, q⟩ | ⟨⟨xs, hq⟩, q⟩
  · obtain ⟨its, rv, p, hz⟩ := I1.list hq
    refine wpAny_pyIter_list p.isList ?_
    refine ⟨s1.heap.objs.size, [s1.heap.objs.size], _, _, H1, rfl, I1.kept (t' := s1.toks) fun b o e => Heap.get?_push_of_some _ e, turn_list a _, ⟨_, Heap.get?_push_size _ rfl, rfl, rfl⟩, fun b hb => ?_, q⟩
    have e : b = s1.heap.objs.size := by simpa using hb
    subst e
    exact I1.fpOk (Nat.le_refl _) (I1.hok.fresh (Nat.le_refl _))
  · obtain ⟨its, rv, p, hz⟩ := I1.tuple hq
    refine wpAny_pyIter_tuple (show s1.heap.IsTuple a its.toArray from p) ?_
    refine ⟨s1.heap.objs.size, [s1.heap.objs.size], _, _, H1, rfl, I1.kept (t' := s1.toks) fun b o e => Heap.get?_push_of_some _ e, turn_tuple a _, ⟨_, Heap.get?_push_size _ rfl, rfl, rfl⟩, fun b hb => ?_, q⟩
    have e : b = s1.heap.objs.size := by simpa using hb
    subst e
    exact I1.fpOk (Nat.le_refl _) (I1.hok.fresh (Nat.le_refl _))
theorem piImp {tg e : Expr} {t t' : TI} (h : PI X tg e t) (i : ∀ σ H R, t' σ H R → t σ H R) : PI X tg e t' := ⟨fun pins s σ H R I w => h.run pins s σ H R I (i _ _ _ w)⟩
theorem walk_src {it : R} {tg e : Expr} (h : PE X e (liftSrc X.K cx it (wpI T c it))) : PI X tg e (liftI X.K cx it (wpI T c it)) :=
  piImp hc (pi_any h) fun σ H R ⟨S, σ2, hr, rs, w⟩ => ⟨S, σ2, hr, rs, wpI_mono hc w fun J2 S1 q a H1 hr1 k1 src => ⟨a, rfl, by
    rcases src with ⟨_, ⟨vs, h⟩, lt⟩ | ⟨_, ⟨vs, h⟩, lt⟩
    · refine .inl ⟨⟨vs, h⟩, q (Itl X.K a) H1 hr1 k1 fun Pz hz S H σ' hr k ok i => ?_⟩
      obtain ⟨us, h1, h2⟩ := lt Pz hz S H σ' hr k ok
      refine ⟨fun d e => ?_, fun e => ⟨us, h1, by rw [← h2.length]; exact Nat.le_of_eq e⟩⟩
      obtain ⟨v, h3, h4⟩ := h2.get e
      refine ⟨⟨us, v, h1, h3⟩, fun x H' y => ?_⟩
      obtain ⟨e1, e2⟩ := y
      subst e1
      have := e2 us h1
      rw [h3] at this; cases this
      exact ⟨hr, .refl, h4⟩
    · refine .inr ⟨⟨vs, h⟩, q (Itt X.K a) H1 hr1 k1 fun Pz hz S H σ' hr k ok i => ?_⟩
      obtain ⟨us, h1, h2⟩ := lt Pz hz S H σ' hr k ok
      refine ⟨fun d e => ?_, fun e => ⟨us, h1, by rw [← h2.length]; exact Nat.le_of_eq e⟩⟩
      obtain ⟨v, h3, h4⟩ := h2.get e
      refine ⟨⟨us, v, h1, h3⟩, fun x H' y => ?_⟩
      obtain ⟨e1, e2⟩ := y
      subst e1
      have := e2 us h1
      rw [h3] at this; cases this
      exact ⟨hr, .refl, h4⟩⟩⟩
theorem rngD_get : ∀ (n : Nat) (lo : Int) (i : Nat) (d : D), (rngD lo n)[i]? = some d → i < n ∧ d = .int (lo + i)
  | 0, _, _, _, e => by simp [rngD] at e
  | n + 1, lo, 0, d, e => by simp [rngD] at e; subst e; exact ⟨Nat.succ_pos _, by simp⟩
  | n + 1, lo, i + 1, d, e => by
    obtain ⟨h1, h2⟩ := rngD_get n (lo + 1) i d (by simpa [rngD] using e)
    exact ⟨by omega, by rw [h2]; congr 1; push_cast; omega⟩
theorem rngD_length : ∀ (n : Nat) (lo : Int), (rngD lo n).length = n
  | 0, _ => rfl
  | n + 1, lo => by simp [rngD, rngD_length n]
theorem itr_later {K : Frag} {S1 : Hs} {H1 : Hp} {lo : Int} {n : Nat} {P : Addr → Prop} : Later K cx S1 H1 (fun _ _ => True) (ItG K cx (Itr lo n) (rngD lo n)) P := fun Pz hz S H σ' hr k _ i =>
  ⟨fun d e => by
    obtain ⟨h1, rfl⟩ := rngD_get hc n lo i d e
    refine ⟨h1, fun x H' y => ?_⟩
    obtain ⟨e1, e2⟩ := y
    subst e1 e2
    exact ⟨hr, .refl, rfl⟩, fun e => by rw [rngD_length hc] at e; exact Nat.le_of_eq e⟩
theorem walk_rng {a : R} {ea tg : Expr} {p pos : Pos} (hg : Gl X "range") (hm : X.mg "range" = none) (hs : starEach [ea] X.env = [(false, eval ea X.env)]) (ha : PE X ea (liftE X.K cx (wpE T c a))) :
    PI X tg (.Call (.Name "range" p) [ea] [] pos) (liftI X.K cx (.rng a) (wpI T c (.rng a))) :=
  piImp hc (pi_range1 hg hm (pa_cons ha pa_nil hs) hs) fun σ H R ⟨S, σ2, hr, rs, w⟩ => stepE hc hr rs w fun x S1 v H1 hr1 k1 rs1 r1 ⟨n, ex, h1, h2, w⟩ => by
    subst ex
    cases r1.1
    exact ⟨n, rfl, by omega, h1, w _ H1 hr1 k1 (itr_later hc)⟩
theorem walk_rng2 {a b : R} {ea eb tg : Expr} {p pos : Pos} (hg : Gl X "range") (hm : X.mg "range" = none) (hs : starEach [ea, eb] X.env = [(false, eval ea X.env), (false, eval eb X.env)]) (hs2 : starEach [eb] X.env = [(false, eval eb X.env)])
    (ha : PE X ea (liftE X.K cx (wpE T c a))) (hb : PE X eb (liftE X.K cx (wpE T c b))) :
    PI X tg (.Call (.Name "range" p) [ea, eb] [] pos) (liftI X.K cx (.rng2 a b) (wpI T c (.rng2 a b))) :=
  piImp hc (pi_range2 hg hm (pa_cons ha (pa_cons hb pa_nil hs2) (by rw [hs, hs2])) hs hs2) fun σ H R ⟨S, σ2, hr, rs, w⟩ => stepE hc hr rs w fun x S1 v H1 hr1 k1 rs1 r1 w => stepE hc hr1 rs1 w fun y S2 u H2 hr2 k2 rs2 r2 ⟨m, n, ex, ey, h, w'⟩ => by
    subst ex ey
    cases r1.1
    cases r2.1
    exact ⟨m, n, rfl, ⟨by omega, h.1, by omega, h.2.2.1⟩, w' _ H2 hr2 (k1.trans k2) (itr_later hc)⟩
end
end DL

/-! DL7c: sorted(d.items()), xs[::-1], list(range(n)), methods that read. -/
namespace DL
open PySem L2 PySem.Spec PyProof.Rows
section
variable {X : Cx} {T : Tbl} {c : Nat → List Vx → Hs → VK2 → Prop} {cx : Cls2} (hc : CalMono c)
include hc
omit hc in
theorem dic_pairs {K : Frag} {H : Hp} : ∀ {ps : List (Int × Int)} {ks : List (Key × V)}, DicR K H (ps.map fun p => (D.int p.1, D.int p.2)) ks → ks = ps.map L2.DX.entI
  | [], _, .nil => rfl
  | p :: ps, (k, v) :: ks, .cons h t => by
    have h1 : k = .inl p.1 := h.1
    have h2 : v = .int p.2 := h.2
    rw [dic_pairs t, h1, h2]; rfl
omit hc in
theorem pairs_rep {K : Frag} {H : Hp} : ∀ {ts : List Addr} {qs : List (Int × Int)}, Paired (fun (t : Addr) (q : Int × Int) => H t = some (.tup [.int q.1, .int q.2])) ts qs → RepL K H (qs.map pairD) (ts.map V.ref)
  | _, _, .nil => .nil
  | t :: ts, q :: qs, .cons h r => .cons ⟨t, _, rfl, SqT.of h, .cons rfl (.cons rfl .nil)⟩ (pairs_rep r)
theorem snd_sIt {e : R} {ee : Expr} {p apos cpos pos : Pos} (hcalm : X.calm = true) (hg : Gl X "sorted") (hm : X.mg "sorted" = none) (he : PE X ee (liftE X.K cx (wpE T c e)))
    (hbase : attributeBase ee "items" X.env (eval ee X.env) = eval ee X.env) (hline : (apos.endLine == cpos.line) = true) :
    PE X (.Call (.Name "sorted" p) [.Call (.Attribute ee "items" apos) [] [] cpos] [] pos) (liftE X.K cx (wpE T c (.sIt e))) :=
  peImp (L2.DX.pe_sItems hcalm hg hm he hbase hline) fun σ H Q ⟨S, σ2, hr, rs, w⟩ => stepE hc hr rs w fun x S1 v H1 hr1 k1 rs1 r1 w => by
    obtain ⟨cn, ⟨ps, rfl, hl, q⟩, hcn⟩ := view_of hr1 r1.1 w
    obtain ⟨a, ks, rfl, ha, rd⟩ := hcn
    have e := dic_pairs rd
    subst e
    refine ⟨a, ps, rfl, ha, hl, fun qs ts l H2 hp hs hg2 hn hl2 hpr => ?_⟩
    have k2 : Keep S1 S1 H1 H2 := ⟨fun b o e n => ⟨hg2 b o e, n⟩, fun b e => by
      cases q : H1 b with
      | none => rfl
      | some o => rw [hg2 b o q] at e; cases e⟩
    have hr2 : Rel X.K cx S1 H2 := fun b o e => by
      obtain ⟨h, z, _⟩ := (hr1 b o e).some
      exact RelO.keep (k2.tups hr1) ((hg2 b h z).trans z.symm) (hr1 b o e)
    obtain ⟨x, ex, q⟩ := q qs hp (hs.imp fun h => lex_lt h)
    cases ex
    exact q _ _ hr2 (k1.trans k2) ⟨⟨l, ts.map V.ref, rfl, hl2, hr1.free hn, pairs_rep hpr⟩, fun _ => ⟨l, rfl, k1.up l hn⟩⟩
theorem snd_rev {e : R} {ee : Expr} {k : Nat} {p1 p2 p3 pos : Pos} (he : PE X ee (liftE X.K cx (wpE T c e))) : PE X (.Subscript ee (.Slice none none (some (.UnaryOp .USub (.Constant (.int 1) k p1) p2)) p3) pos) (liftE X.K cx (wpE T c (.rev e))) :=
  peImp (pe_revL he) fun σ H Q ⟨S, σ2, hr, rs, w⟩ => stepE hc hr rs w fun x S1 v H1 hr1 k1 rs1 r1 w => by
    obtain ⟨cn, ⟨ds, rfl, q⟩, hcn⟩ := view_of hr1 r1.1 w
    obtain ⟨a, vs, rfl, ha, rv⟩ := hcn
    obtain ⟨x, ex, q⟩ := q
    cases ex
    have rr : ∀ {ds : List D} {vs : List V}, RepL X.K H1 ds vs → RepL X.K H1 ds.reverse vs.reverse := by
      intro ds
      induction ds with
      | nil => intro vs e; cases e; exact .nil
      | cons d ds ih =>
        rintro _ ⟨v, vr, rfl, r, rr⟩
        rw [List.reverse_cons, List.reverse_cons]
        exact RepL.append (ih rr) (.cons r .nil)
    exact ⟨a, vs, rfl, SqL.of ha, fun p n => fin_vl (KVof.of k1 q) hr1 (rr rv) p n⟩
omit hc in
theorem rgV_rep {K : Frag} {H : Hp} {n : Int} : RepL K H (rngD 0 n.toNat) (rgV 0 n) := by
  have key : ∀ (m : Nat) (lo : Int), RepL K H (rngD lo m) ((List.range m).map fun i => V.int (lo + (i : Nat))) := by
    intro m
    induction m with
    | zero => intro lo; exact .nil
    | succ m ih =>
      intro lo
      rw [List.range_succ_eq_map, List.map_cons]
      refine .cons (by show V.int (lo + ((0 : Nat) : Int)) = V.int lo; simp) ?_
      rw [List.map_map]
      have e : ((fun i : Nat => V.int (lo + (i : Nat))) ∘ Nat.succ) = fun i : Nat => V.int (lo + 1 + (i : Nat)) := by
        funext i
        show V.int (lo + ((i + 1 : Nat) : Int)) = _
        congr 1; push_cast; omega
      rw [e]
      exact ih (lo + 1)
  unfold rgV
  rw [show (n - 0).toNat = n.toNat by omega]
  exact key n.toNat 0
theorem snd_lrg {a : R} {ea : Expr} {p p2 pos2 pos : Pos} (hcalm : X.calm = true) (hg : Gl X "list") (hm : X.mg "list" = none) (hg2 : Gl X "range") (hm2 : X.mg "range" = none) (ha : PE X ea (liftE X.K cx (wpE T c a)))
    (na : starEach [ea] X.env = (false, eval ea X.env) :: starEach [] X.env) : PE X (.Call (.Name "list" p) [.Call (.Name "range" p2) [ea] [] pos2] [] pos) (liftE X.K cx (wpE T c (.lrg a))) :=
  peImp (pe_listRg hcalm hg hm (prg_1 hg2 hm2 ha na)) fun σ H Q ⟨S, σ2, hr, rs, w⟩ => stepE hc hr rs w fun x S1 v H1 hr1 k1 rs1 r1 ⟨n, ex, h1, h2, x', ex', q⟩ => by
    subst ex
    cases r1.1
    cases ex'
    exact ⟨n, rfl, ⟨by omega, by omega, by omega, by omega, by omega⟩, fun p n => fin_vl (KVof.of k1 q) hr1 rgV_rep p n⟩
omit hc in
theorem repL_flat {K : Frag} {H : Hp} : ∀ {ds : List D} {vs : List V} {j : Nat} {d : D}, RepL K H ds vs → ds[j]? = some d → ∃ v, vs[j]? = some v ∧ RepV K H d v := fun r e => r.get e
theorem snd_index {o a : R} {eo ea e : Expr} (hp : ∀ to t, PE X eo to → PA X [ea] t → PE X e (tBM X.K "list" (rIndex X.K) to t)) (hs : starEach [ea] X.env = [(false, eval ea X.env)]) (ho : PE X eo (liftE X.K cx (wpE T c o))) (ha : PE X ea (liftE X.K cx (wpE T c a))) :
    PE X e (liftE X.K cx (wpE T c (.bm1 .index o a))) :=
  peImp (hp _ _ ho (pa_cons ha pa_nil hs)) fun σ H Q ⟨S, σ2, hr, rs, w⟩ => stepE hc hr rs w fun x S1 v H1 hr1 k1 rs1 r1 ⟨ty, w⟩ => by
    obtain ⟨cn, ⟨ds0, rfl⟩, hcn⟩ := view_of hr1 r1.1 ty
    obtain ⟨l0, vs0, rfl, h0, _⟩ := hcn
    refine ⟨.inl ⟨rfl, vs0, SqL.of h0⟩, stepE hc hr1 rs1 w fun y S2 u H2 hr2 k2 rs2 r2 w => ?_⟩
    obtain ⟨cn, ⟨ds, yd, j, z, rfl, rfl, f1, f2, g1, g2, g3, x', ex, q⟩, hcn⟩ := view_of hr2 (r1.1.keep k2 hr1) w
    obtain ⟨l, vs, e, hl, rv⟩ := hcn
    cases e
    cases ex
    have ru : RepV X.K H2 yd u := r2.1
    obtain ⟨zv, hz, rz⟩ := rv.get g1
    have fz : flatD z = true := List.all_eq_true.mp f2 z (List.mem_of_getElem? g1)
    refine ⟨l0, vs, u, j, zv, rfl, rfl, SqL.of hl, flat_rel f1 ru, flats_rel f2 rv, hz, by rw [eqV_eqB fz f1 rz ru]; exact g2, fun m z' hm hz' => ?_, fin_int (KVof.of (k1.trans k2) q) hr2⟩
    have hmd : m < ds.length := by rw [rv.length]; exact (List.getElem?_eq_some_iff.mp hz').1
    obtain ⟨zv', hz2, rz2⟩ := rv.get (List.getElem?_eq_getElem hmd)
    rw [hz'] at hz2
    cases hz2
    have fz2 : flatD ds[m] = true := List.all_eq_true.mp f2 _ (List.getElem_mem hmd)
    rw [eqV_eqB fz2 f1 rz2 ru]
    exact g3 m _ hm (List.getElem?_eq_getElem hmd)
theorem snd_count {o a : R} {eo ea e : Expr} (hp : ∀ to t, PE X eo to → PA X [ea] t → PE X e (tBM X.K "list" (rCntI X.K) to t)) (hs : starEach [ea] X.env = [(false, eval ea X.env)]) (ho : PE X eo (liftE X.K cx (wpE T c o))) (ha : PE X ea (liftE X.K cx (wpE T c a))) :
    PE X e (liftE X.K cx (wpE T c (.bm1 .count o a))) :=
  peImp (hp _ _ ho (pa_cons ha pa_nil hs)) fun σ H Q ⟨S, σ2, hr, rs, w⟩ => stepE hc hr rs w fun x S1 v H1 hr1 k1 rs1 r1 ⟨ty, w⟩ => by
    obtain ⟨cn, ⟨ds0, rfl⟩, hcn⟩ := view_of hr1 r1.1 ty
    obtain ⟨l0, vs0, rfl, h0, _⟩ := hcn
    refine ⟨.inl ⟨rfl, vs0, SqL.of h0⟩, stepE hc hr1 rs1 w fun y S2 u H2 hr2 k2 rs2 r2 w => ?_⟩
    obtain ⟨cn, ⟨ns, k, rfl, rfl, x', ex, q⟩, hcn⟩ := view_of hr2 (r1.1.keep k2 hr1) w
    obtain ⟨l, vs, e, hl, rv⟩ := hcn
    cases e
    cases ex
    have e2 := rv.ints
    subst e2
    obtain rfl : u = .int k := r2.1
    exact ⟨l0, ns, k, rfl, rfl, SqL.of hl, fin_int (KVof.of (k1.trans k2) q) hr2⟩
omit hc in
theorem strs_rep {K : Frag} {H : Hp} : ∀ {zs : List (List Nat)} {vs : List V}, RepL K H (zs.map D.str) vs → vs = (zs.map sv).map V.str
  | [], _, e => e
  | z :: zs, _, ⟨v, vr, e, r, rr⟩ => by subst e; cases r; rw [strs_rep rr]; rfl
omit hc in
theorem strs_of {K : Frag} {H : Hp} : ∀ (ys : List Str), RepL K H ((ys.map fun z => z.cps.toList).map D.str) (ys.map V.str)
  | [] => .nil
  | y :: ys => .cons (by show V.str y = V.str (sv y.cps.toList); congr 1) (strs_of ys)
omit hc in
theorem sv_cps (y : Str) : sv y.cps.toList = y := by show (⟨y.cps.toList.toArray⟩ : Str) = y; simp
theorem snd_join {o a : R} {eo ea : Expr} {apos pos : Pos} (hs : starEach [ea] X.env = [(false, eval ea X.env)]) (hbase : attributeBase eo "join" X.env (eval eo X.env) = eval eo X.env) (hline : (apos.endLine == pos.line) = true) (ho : PE X eo (liftE X.K cx (wpE T c o))) (ha : PE X ea (liftE X.K cx (wpE T c a))) :
    PE X (.Call (.Attribute eo "join" apos) [ea] [] pos) (liftE X.K cx (wpE T c (.bm1 .join o a))) :=
  peImp (pe_join ho ha hs hbase hline) fun σ H Q ⟨S, σ2, hr, rs, w⟩ => stepE hc hr rs w fun x S1 v H1 hr1 k1 rs1 r1 ⟨ty, w⟩ => by
    have isS : ∃ s, x = .d (.str s) := by
      cases x with
      | d y => cases y <;> first | exact ⟨_, rfl⟩ | exact ty.elim
      | _ => exact ty.elim
    obtain ⟨s, rfl⟩ := isS
    cases r1.1
    refine ⟨⟨_, rfl⟩, stepE hc hr1 rs1 w fun y S2 u H2 hr2 k2 rs2 r2 w => ?_⟩
    obtain ⟨cn, ⟨s', zs, e1, rfl, hz, x', ex, q⟩, hcn⟩ := view_of hr2 r2.1 w
    cases e1
    cases ex
    obtain ⟨l, vs, rfl, hl, rv⟩ := hcn
    have e2 := strs_rep rv
    subst e2
    refine ⟨_, l, zs.map sv, rfl, rfl, .inl (SqL.of hl), ?_, ?_⟩
    · rw [List.map_map, List.length_map, sv_length]
      have : (List.map (Str.length ∘ sv) zs) = zs.map List.length := List.map_congr_left fun z _ => sv_length z
      rw [show (List.map ((fun x => x.length) ∘ sv) zs) = zs.map List.length from this]
      exact hz
    · have := fin_d (KVof.of (k1.trans k2) q) hr2 (v := .str (sv (joinD s zs))) rfl
      unfold joinD at this
      rw [sv_cps] at this
      exact this
theorem snd_split {o a : R} {eo ea : Expr} {apos pos : Pos} (hs : starEach [ea] X.env = [(false, eval ea X.env)]) (hbase : attributeBase eo "split" X.env (eval eo X.env) = eval eo X.env) (hline : (apos.endLine == pos.line) = true) (ho : PE X eo (liftE X.K cx (wpE T c o))) (ha : PE X ea (liftE X.K cx (wpE T c a))) :
    PE X (.Call (.Attribute eo "split" apos) [ea] [] pos) (liftE X.K cx (wpE T c (.bm1 .split o a))) :=
  peImp (pe_split ho ha hs hbase hline) fun σ H Q ⟨S, σ2, hr, rs, w⟩ => stepE hc hr rs w fun x S1 v H1 hr1 k1 rs1 r1 ⟨ty, w⟩ => by
    have isS : ∃ s, x = .d (.str s) := by
      cases x with
      | d y => cases y <;> first | exact ⟨_, rfl⟩ | exact ty.elim
      | _ => exact ty.elim
    obtain ⟨s, rfl⟩ := isS
    cases r1.1
    refine ⟨⟨_, rfl⟩, stepE hc hr1 rs1 w fun y S2 u H2 hr2 k2 rs2 r2 ⟨s', t, e1, e2, h0, hz, x', ex, q⟩ => ?_⟩
    cases e1
    subst e2
    cases r2.1
    cases ex
    refine ⟨_, _, rfl, rfl, ?_, by rw [sv_length]; exact hz, fun p n => ?_⟩
    · rw [sv_length]
      cases t with
      | nil => exact (h0 rfl).elim
      | cons c t => rfl
    · exact fin_vl (KVof.of (k1.trans k2) q) hr2 (strs_of _) p n
theorem snd_upper {o : R} {eo : Expr} {apos pos : Pos} (hbase : attributeBase eo "upper" X.env (eval eo X.env) = eval eo X.env) (hline : (apos.endLine == pos.line) = true) (ho : PE X eo (liftE X.K cx (wpE T c o))) :
    PE X (.Call (.Attribute eo "upper" apos) [] [] pos) (liftE X.K cx (wpE T c (.upper o))) :=
  peImp (pe_upper ho hbase hline) fun σ H Q ⟨S, σ2, hr, rs, w⟩ => stepE hc hr rs w fun x S1 v H1 hr1 k1 rs1 r1 ⟨s, ex, hz, x', ex', q⟩ => by
    subst ex
    cases r1.1
    cases ex'
    refine ⟨⟨_, rfl⟩, _, rfl, rfl, by rw [sv_length]; omega, ?_⟩
    have := fin_d (KVof.of k1 q) hr1 (v := .str (sv (upD s))) rfl
    unfold upD at this
    rw [sv_cps] at this
    exact this
end
end DL

/-! DL9: enumerate, zip; targets; comprehensions. -/
namespace DL
open PySem L2 PySem.Spec PyProof.Rows
/-- enumerate(tuple) -/
def IteT (K : PySem.W.Frag) (a : Addr) : It :=
  ⟨fun i H => ∃ (xs : List V) (x : V), SqT K H a xs ∧ xs[i]? = some x, fun i H v H' => ∃ T x, v = .ref T ∧ H T = none ∧ H' = upd H T (.tup [.int (i : Nat), x]) ∧ ∀ xs, SqT K H a xs → xs[i]? = some x, fun i H => ∃ xs : List V, SqT K H a xs ∧ xs.length = i⟩
theorem turn_enumT {P : Program} {w : World} {K : PySem.W.Frag} {elts : List Expr} {kk : Nat} {tpos : Pos} (a e it : Addr) :
    Turn P w K (.Tuple elts kk tpos) (IteT K a) [e, it] e (fun i h => (∃ old, IsEnum h e it ((i : Nat) : Int) old) ∧ h.IsTupleIter it a i ∧ e ≠ it) where
  mem := by simp
  obj := fun i h st b hb => by
    obtain ⟨⟨old, he⟩, ⟨o, ho, hc, hd⟩, _⟩ := st
    have e' : b = e ∨ b = it := by simpa using hb
    rcases e' with z | z
    · rw [z]; exact ⟨_, he, fun v q => nomatch q⟩
    · rw [z]; exact ⟨o, ho, fun v q => by rw [hd] at q; cases q⟩
  keep := fun i h h' st k => let ⟨⟨old, he⟩, hi, hne⟩ := st; ⟨⟨old, k e (by simp) _ he⟩, hi.at fun o q => k it (by simp) o q, hne⟩
  item := by
    intro X hP hw hK hc i pins s σ H E I hf st hg
    subst hP hw hK
    obtain ⟨⟨old, he⟩, hit, hne⟩ := st
    obtain ⟨xs, x, hq, hx⟩ := hg
    obtain ⟨its, rv, p, hz⟩ := I.tuple hq
    obtain ⟨u, hu, ru⟩ := rv.get hx
    have hel : e < s.heap.objs.size := Heap.lt_size he
    have hil : it < s.heap.objs.size := by obtain ⟨_, q, _⟩ := hit; exact Heap.lt_size q
    have hae : a ≠ it := fun z => by
      subst z
      obtain ⟨o, q, c, d⟩ := hit
      obtain ⟨o', q', c', _⟩ := p
      rw [q] at q'; cases q'
      rw [c] at c'
      exact absurd c' (by decide +kernel)
    have hee : a ≠ e := fun z => by
      subst z
      obtain ⟨o', q', c', _⟩ := p
      rw [he] at q'; cases q'
      have c'' : Value.type "enumerate" = Value.type "tuple" := c'
      exact absurd c'' (by decide +kernel)
    have hlen : i < its.toArray.size := by
      have := (List.getElem?_eq_some_iff.mp hu).1
      simpa using this
    refine wpAny_pyNext_enum_itemD (Draws.tuple (prog := X.prog) (w := X.w) (A := X.A.in1) (show X.A.in1.handled = none from I.ok.hd hc) it a hae its.toArray) he ⟨hit, (show s.heap.IsTuple a its.toArray from p)⟩ hlen hne (by simp [hne, Ne.symm hee]) fun u' h' tk hP ho hst' hT hsz hk => ?_
    have eu : u' = u := by
      have hP : its.toArray[i]? = some u' := hP
      have hu2 : its.toArray[i]? = some u := by simpa using hu
      rw [hu2] at hP
      exact (Option.some.inj hP).symm
    subst eu
    refine ⟨_, rfl, wpAny_letOwnedTupleGo_enum (s := { s with heap := h', toks := tk + 1 }) ho fun h'' he' sb => ?_⟩
    have hT2 : h''.get? s.heap.objs.size = some { cls := .type "tuple", data := .seq #[.int i tk, u'] } := (sb.2 _ (Nat.ne_of_gt hel)).trans hT
    have new : ObjOk X.prog X.w (upd H s.heap.objs.size (.tup [.int (i : Nat), x])) h'' s.heap.objs.size (.tup [.int (i : Nat), x]) :=
      ⟨by show 2 ≤ sizeLine; decide, [.int i tk, u'], .cons ⟨_, rfl⟩ (.cons ru .nil), ⟨_, hT2, rfl, _, rfl⟩⟩
    have I1 : Inv X pins σ (upd H s.heap.objs.size (.tup [.int (i : Nat), x])) { s with heap := h'', toks := tk + 1 } :=
      I.turnedNew (ch := [e, it]) (fun b ob hb q => (sb.2 b (fun z => hb (by simp [z]))).trans (hk b ob (fun z => hb (by simp [z])) (fun z => hb (by simp [z])) q)) hf (Nat.le_refl _) new
    refine ⟨.ref s.heap.objs.size, _, I1, rfl, ⟨_, x, rfl, I.hok.fresh (Nat.le_refl _), rfl, fun ys hy => by rw [I.tuple_inj hy hq]; exact hx⟩, ⟨⟨u', ?_⟩, hst'.1.at fun o q => (sb.2 it (Ne.symm hne)).trans q, hne⟩, fun b hb => ?_⟩
    · have e1 : ((i + 1 : Nat) : Int) = (i : Int) + 1 := by omega
      rw [e1]; exact he'
    · have hb' : b < s.heap.objs.size := by
        have e' : b = e ∨ b = it := by simpa using hb
        rcases e' with z | z
        · rw [z]; exact hel
        · rw [z]; exact hil
      rw [upd_ne (Nat.ne_of_lt hb')]
      exact (hf b hb).1
  done := by
    intro X hP hw hK hc i pins s σ H E I hf st hg
    subst hP hw hK
    obtain ⟨⟨old, he⟩, hit, hne⟩ := st
    obtain ⟨xs, hq, hx⟩ := hg
    obtain ⟨its, rv, p, hz⟩ := I.tuple hq
    obtain ⟨f0, f1, f2, f3, f4, f5⟩ := hf it (by simp)
    have hl := rv.length
    have hae : a ≠ it := fun z => by
      subst z
      obtain ⟨o, q, c, d⟩ := hit
      obtain ⟨o', q', c', _⟩ := p
      rw [q] at q'; cases q'
      rw [c] at c'
      exact absurd c' (by decide +kernel)
    have hs : its.toArray.size = i := by rw [List.size_toArray, ← hl]; exact hx
    refine wpAny_pyNext_enum_endD (Draws.tuple (prog := X.prog) (w := X.w) (A := X.A.in1) (show X.A.in1.handled = none from I.ok.hd hc) it a hae its.toArray) he ⟨by rw [hs]; exact hit, (show s.heap.IsTuple a its.toArray from p)⟩ fun h' eb => ⟨rfl, I.turned (t' := s.toks) (fun b o hb q => eb b o hb q) f0 f1 f3 f4 f5⟩
  self := fun A i s Q E st h => let ⟨⟨_, he⟩, _⟩ := st; wpAny_pyIter_enum he h

theorem meets_enumT {v : Value} {o : Obj} {H : Heap → Prop} (B : Begins v o H) :
    Meets (Builtin.«enumerate.__new__» ⟨[.type "enumerate", v], []⟩) (fun _ R s => H s.heap ∧
      R (.ok (.ret (.ref (s.heap.push o).objs.size))) { s with heap := (s.heap.push o).push { cls := .type "enumerate", data := .fields #[.none, .bool false, .ref s.heap.objs.size, rawInt 0, .none, .none] } }) :=
  .of_wp fun prog w A R s h => by
    obtain ⟨hp, g, d, tk, os⟩ := s; obtain ⟨h1, h⟩ := h
    have hsub := sub_enumerate
    have q1 : ∀ {A' : Around} {E : Value → Shared → Prop} {Q : Value → Shared → Prop}, Q (.ref hp.objs.size) ⟨hp.push o, g, d, tk, os⟩ → wpAny (model prog w) A' (pyIter v) Q E ⟨hp, g, d, tk, os⟩ :=
      fun q => B.iter prog w _ _ ⟨hp, g, d, tk, os⟩ _ h1 q
    wp_walk using q1
    refine wpAny_stack_any fun st => wpAny_pure ?_
    split
    · rename_i c _ _ _ _ _
      cases (c == Value.type "enumerate")
      · wp_walk using q1
        exact ⟨_, rfl, h⟩
      · wp_walk using q1
        exact ⟨_, rfl, h⟩
    · wp_walk using q1
      exact ⟨_, rfl, h⟩
theorem call_enumT {prog : Program} {w : World} {A : Around} {E : Value → Shared → Prop} {s : Shared} {v : Value} {o : Obj} {H : Heap → Prop} {Q : Value → Shared → Prop} (B : Begins v o H) (h1 : H s.heap)
    (h : ∀ h', IsEnum h' (s.heap.objs.size + 1) s.heap.objs.size 0 .none → h'.get? s.heap.objs.size = some o → h'.objs.size = s.heap.objs.size + 2 →
      (∀ b o, s.heap.get? b = some o → h'.get? b = some o) → Q (.ref (s.heap.objs.size + 1)) { s with heap := h' }) :
    wpAny (model prog w) A (call (.type "enumerate") [v]) Q E s := by
  refine callType_new F.called_enumerate (by decide) (F.typeCall_enumerate_1 _) (F.newCall_enumerate_1 _) (fun obj => F.args_object_init_2 obj _) F.entry_enumerate_new
    (meets_enumT B) ⟨h1, ?_⟩
  have hz : (s.heap.push o).objs.size = s.heap.objs.size + 1 := Heap.size_push ..
  show _ ∧ _
  rw [hz]
  have he : IsEnum ((s.heap.push o).push { cls := .type "enumerate", data := .fields #[.none, .bool false, .ref s.heap.objs.size, rawInt 0, .none, .none] }) (s.heap.objs.size + 1) s.heap.objs.size 0 .none := by
    have := Heap.get?_push_size (s.heap.push o) (o := { cls := .type "enumerate", data := .fields #[.none, .bool false, .ref s.heap.objs.size, rawInt 0, .none, .none] }) rfl
    rw [hz] at this; exact this
  refine ⟨⟨_, he, rfl⟩, h _ he (Heap.get?_push_of_some _ (Heap.get?_push_size _ B.free)) (by rw [Heap.size_push, hz]) fun b o x => Heap.get?_push_of_some _ (Heap.get?_push_of_some _ x)⟩
def iEnumA (K : Frag) (ta : TA) : TI := fun σ H R => ta σ H fun vs H1 => ∃ a, vs = [.ref a] ∧ (((∃ xs, SqL K H1 a xs) ∧ R (Ite K a) H1) ∨ ((∃ xs, SqT K H1 a xs) ∧ R (IteT K a) H1))
theorem pi_enumA {X : Cx} {e : Expr} {ta : TA} {p pos tpos : Pos} {elts : List Expr} {kk : Nat} (hg : Gl X "enumerate") (hm : X.mg "enumerate" = none) (ha : PA X [e] ta) (hs : starEach [e] X.env = [(false, eval e X.env)]) :
    PI X (.Tuple elts kk tpos) (.Call (.Name "enumerate" p) [e] [] pos) (iEnumA X.K ta) := by
  refine ⟨fun pins s σ H R I h => ?_⟩
  refine Call_ (ld_blt I hg hm boot_enumerate (PyProof.Rows.callWith_type1 (thn (ha.run pos pins s σ H _ I h) fun us s1 ⟨vs, H1, I1, r1, q1⟩ => ?_) hs rfl))
  obtain ⟨a, ex, q⟩ := q1
  subst ex
  cases r1 with
  | cons r rr =>
    cases rr
    cases r
    have fp2 : ∀ b ∈ [s1.heap.objs.size + 1, s1.heap.objs.size], FpOk X pins H1 b := fun b hb => by
      have e' : b = s1.heap.objs.size + 1 ∨ b = s1.heap.objs.size := by simpa using hb
      have hle : s1.heap.objs.size ≤ b := by
        rcases e' with z | z
        · rw [z]; exact Nat.le_add_right _ _
        · rw [z]; exact Nat.le_refl _
      exact I1.fpOk hle (I1.hok.fresh hle)
    rcases q with ⟨⟨xs, hq⟩, q⟩ | ⟨⟨xs, hq⟩, q⟩
    · obtain ⟨its, rv, p', hz⟩ := I1.list hq
      refine call_enumerate_list p'.isList fun h' he hit hsz hk => wpAny_pyIter_enum he ?_
      have I2 : Inv X pins σ H1 { s1 with heap := h' } := I1.kept (t' := s1.toks) hk
      exact ⟨s1.heap.objs.size + 1, [s1.heap.objs.size + 1, s1.heap.objs.size], _, _, H1, rfl, I2, turn_enum a (s1.heap.objs.size + 1) s1.heap.objs.size, ⟨⟨.none, he⟩, hit, Nat.succ_ne_self _⟩, fp2, q⟩
    · obtain ⟨its, rv, p', hz⟩ := I1.tuple hq
      refine call_enumT (begins_tuple a its.toArray) (show s1.heap.IsTuple a its.toArray from p') fun h' he hit hsz hk => wpAny_pyIter_enum he ?_
      have I2 : Inv X pins σ H1 { s1 with heap := h' } := I1.kept (t' := s1.toks) hk
      exact ⟨s1.heap.objs.size + 1, [s1.heap.objs.size + 1, s1.heap.objs.size], _, _, H1, rfl, I2, turn_enumT a (s1.heap.objs.size + 1) s1.heap.objs.size, ⟨⟨.none, he⟩, ⟨_, hit, rfl, rfl⟩, Nat.succ_ne_self _⟩, fp2, q⟩
theorem enumD_get : ∀ (ds : List D) (n i : Nat) (d : D), (enumD n ds)[i]? = some d → ∃ x, ds[i]? = some x ∧ d = .tup [.int ((n + i : Nat) : Int), x]
  | [], _, _, _, e => by simp [enumD] at e
  | a :: as, n, 0, d, e => ⟨a, rfl, by simp [enumD] at e; exact e.symm⟩
  | a :: as, n, i + 1, d, e => by
    obtain ⟨x, h1, h2⟩ := enumD_get as (n + 1) i d (by simpa [enumD] using e)
    refine ⟨x, by simpa using h1, ?_⟩
    rw [h2]
    have : n + 1 + i = n + (i + 1) := by omega
    rw [this]
theorem enumD_length : ∀ (ds : List D) (n : Nat), (enumD n ds).length = ds.length
  | [], _ => rfl
  | a :: as, n => by simp [enumD, enumD_length as]
theorem zipD_get : ∀ (as bs : List D) (i : Nat) (d : D), (zipD as bs)[i]? = some d → ∃ x y, as[i]? = some x ∧ bs[i]? = some y ∧ d = .tup [x, y]
  | [], _, _, _, e => by simp [zipD] at e
  | a :: as, [], _, _, e => by simp [zipD] at e
  | a :: as, b :: bs, 0, d, e => ⟨a, b, rfl, rfl, by simp [zipD] at e; exact e.symm⟩
  | a :: as, b :: bs, i + 1, d, e => by
    obtain ⟨x, y, h1, h2, h3⟩ := zipD_get as bs i d (by simpa [zipD] using e)
    exact ⟨x, y, by simpa using h1, by simpa using h2, h3⟩
theorem zipD_length : ∀ (as bs : List D), (zipD as bs).length = min as.length bs.length
  | [], _ => by simp [zipD]
  | a :: as, [] => by simp [zipD]
  | a :: as, b :: bs => by simp [zipD, zipD_length as bs]
section
variable {K : Frag} {cx : Cls2} {S S1 S2 : Hs} {H H1 H2 : Hp}
theorem pair_new {H : Hp} {T : Addr} {x y : V} {d e : D} (hr : Rel K cx S H) (n : H T = none) (rx : RepV K H d x) (ry : RepV K H e y) :
    Rel K cx S (upd H T (.tup [x, y])) ∧ Keep S S H (upd H T (.tup [x, y])) ∧ RepV K (upd H T (.tup [x, y])) (.tup [d, e]) (.ref T) := by
  have t := tupS_new (K := K) (h := .tup [x, y]) n
  exact ⟨hr.upd0 (hr.free n) t, Keep.new n, T, [x, y], rfl, SqT.of upd_same, .cons (RepV.keep t _ _ rx) (.cons (RepV.keep t _ _ ry) .nil)⟩
theorem Later.keep {ok : Sl → Hs → Prop} {G : Hs → Hp → Prop} {P : Addr → Prop} (k : Keep S1 S2 H1 H2) (l : Later K cx S1 H1 ok G P) : Later K cx S2 H2 ok G P := fun Pz hz S H σ' hr kk o =>
  l (fun b => S1 b = none ∧ H1 b ≠ none ∧ P b) (fun b a c d => ⟨a, c, d⟩) S H σ' hr (fun b ⟨a, c, d⟩ => by
    cases q : H1 b with
    | none => exact (c q).elim
    | some o =>
      obtain ⟨h1, h2⟩ := k.kp b o q a
      obtain ⟨h3, h4⟩ := kk b (hz b h2 (by rw [h1]; simp) d)
      exact ⟨h3, by rw [h4, h1]⟩) o
theorem Later.weak {ok ok' : Sl → Hs → Prop} {G : Hs → Hp → Prop} {P P' : Addr → Prop} (hP : ∀ b, P b → P' b) (ho : ∀ σ S, ok' σ S → ok σ S) (l : Later K cx S1 H1 ok G P) : Later K cx S1 H1 ok' G P' := fun Pz hz S H σ' hr kk o =>
  l Pz (fun b a c d => hz b a c (hP b d)) S H σ' hr kk (ho _ _ o)
end
section
variable {X : Cx} {T : Tbl} {c : Nat → List Vx → Hs → VK2 → Prop} {cx : Cls2} (hc : CalMono c)
include hc
theorem walk_enu {it : R} {ea : Expr} {elts : List Expr} {kk : Nat} {p pos tpos : Pos} (hg : Gl X "enumerate") (hm : X.mg "enumerate" = none) (hs : starEach [ea] X.env = [(false, eval ea X.env)])
    (h : PE X ea (liftSrc X.K cx it (wpI T c it))) : PI X (.Tuple elts kk tpos) (.Call (.Name "enumerate" p) [ea] [] pos) (liftI X.K cx (.enu it) (wpI T c (.enu it))) :=
  piImp hc (pi_enumA hg hm (pa_cons h pa_nil hs) hs) fun σ H R ⟨S, σ2, hr, rs, w⟩ => ⟨S, σ2, hr, rs, wpI_mono hc w fun J2 S1 q a H1 hr1 k1 src => ⟨a, rfl, by
    rcases src with ⟨_, ⟨vs, h⟩, lt⟩ | ⟨_, ⟨vs, h⟩, lt⟩
    · refine .inl ⟨⟨vs, h⟩, q (Ite X.K a) H1 hr1 k1 fun Pz hz S H σ' hr k ok i => ?_⟩
      obtain ⟨us, h1, h2⟩ := lt Pz hz S H σ' hr k ok
      refine ⟨fun d e => ?_, fun e => ⟨us, h1, by rw [← h2.length, ← enumD_length J2.items 0]; exact Nat.le_of_eq e⟩⟩
      obtain ⟨x, e1, rfl⟩ := enumD_get _ _ _ _ e
      obtain ⟨v, h3, h4⟩ := h2.get e1
      refine ⟨⟨us, v, h1, h3⟩, fun x' H' y => ?_⟩
      obtain ⟨Tt, v', rfl, n, rfl, y⟩ := y
      have := y us h1
      rw [h3] at this; cases this
      rw [Nat.zero_add]
      exact pair_new hr n rfl h4
    · refine .inr ⟨⟨vs, h⟩, q (IteT X.K a) H1 hr1 k1 fun Pz hz S H σ' hr k ok i => ?_⟩
      obtain ⟨us, h1, h2⟩ := lt Pz hz S H σ' hr k ok
      refine ⟨fun d e => ?_, fun e => ⟨us, h1, by rw [← h2.length, ← enumD_length J2.items 0]; exact e⟩⟩
      obtain ⟨x, e1, rfl⟩ := enumD_get _ _ _ _ e
      obtain ⟨v, h3, h4⟩ := h2.get e1
      refine ⟨⟨us, v, h1, h3⟩, fun x' H' y => ?_⟩
      obtain ⟨Tt, v', rfl, n, rfl, y⟩ := y
      have := y us h1
      rw [h3] at this; cases this
      rw [Nat.zero_add]
      exact pair_new hr n rfl h4⟩⟩
theorem walk_zip {it it' : R} {ea eb : Expr} {elts : List Expr} {kk : Nat} {p pos tpos : Pos} (hg : Gl X "zip") (hm : X.mg "zip" = none) (hs : starEach [ea, eb] X.env = (false, eval ea X.env) :: starEach [eb] X.env) (hpl : (backTo pos (starEach [eb] X.env)).any (·.1) = false) (hs2 : starEach [eb] X.env = [(false, eval eb X.env)])
    (h : PE X ea (liftSrc X.K cx it (wpI T c it))) (h' : PE X eb (liftSrc X.K cx it' (wpI T c it'))) : PI X (.Tuple elts kk tpos) (.Call (.Name "zip" p) [ea, eb] [] pos) (liftI X.K cx (.zip it it') (wpI T c (.zip it it'))) :=
  piImp hc (RZ.pi_zipA hg hm (pa_cons h (pa_cons h' pa_nil hs2) hs) hs hpl) fun σ H R ⟨S, σ2, hr, rs, w⟩ => ⟨S, σ2, hr, rs, wpI_mono hc w fun J2 S1 w a H1 hr1 k1 src => ⟨S1, σ2, hr1, rs.keep k1 hr, wpI_mono hc w fun J3 S2 ⟨tu, ok, q⟩ b H2 hr2 k2 src' => by
    have P1 : ∀ b, (OwnA σ2 σ b → srcA it σ2 σ b) → (OwnA σ2 σ b → srcA (.zip it it') σ2 σ b) := fun b z o => .inl (z o)
    have P2 : ∀ b, (OwnA σ2 σ b → srcA it' σ2 σ b) → (OwnA σ2 σ b → srcA (.zip it it') σ2 σ b) := fun b z o => .inr (z o)
    rcases src with ⟨t1, _, lt⟩ | ⟨t1, _, lt⟩
    · rcases src' with ⟨t2, ⟨vs', h'⟩, lt'⟩ | ⟨t2, _, _⟩
      · have lt := lt.keep k2
        obtain ⟨vs, hv, _⟩ := lt (fun b => S2 b = none ∧ H2 b ≠ none) (fun b z1 z2 _ => ⟨z1, z2⟩) S2 H2 σ2 hr2 (fun b z => ⟨z.1, rfl⟩) ok
        refine ⟨a, b, vs, vs', rfl, .inl ⟨hv, h', q (L2.Itz X.K a b) H2 hr2 (k1.trans k2) fun Pz hz S H σ' hr k ok' i => ?_⟩⟩
        obtain ⟨us, h1, h2⟩ := (lt.weak P1 (fun _ _ z => z)) Pz hz S H σ' hr k ok'.1
        obtain ⟨ws, g1, g2⟩ := (lt'.weak P2 (fun _ _ z => z)) Pz hz S H σ' hr k ok'.2
        refine ⟨fun d e => ?_, fun e => ⟨us, ws, h1, g1, by rw [zipD_length] at e; rw [← h2.length, ← g2.length]; omega⟩⟩
        obtain ⟨x, y, e1, e2, rfl⟩ := zipD_get _ _ _ _ e
        obtain ⟨v, h3, h4⟩ := h2.get e1
        obtain ⟨u, g3, g4⟩ := g2.get e2
        refine ⟨⟨us, ws, v, u, h1, g1, h3, g3⟩, fun x' H' y => ?_⟩
        obtain ⟨Tt, v', u', rfl, n, rfl, y1, y2⟩ := y
        have e3 := y1 us h1
        have e4 := y2 ws g1
        rw [h3] at e3; cases e3
        rw [g3] at e4; cases e4
        exact pair_new hr n h4 g4
      · rw [t1, t2] at tu; cases tu
    · rcases src' with ⟨t2, _, _⟩ | ⟨t2, ⟨vs', h'⟩, lt'⟩
      · rw [t1, t2] at tu; cases tu
      · have lt := lt.keep k2
        obtain ⟨vs, hv, _⟩ := lt (fun b => S2 b = none ∧ H2 b ≠ none) (fun b z1 z2 _ => ⟨z1, z2⟩) S2 H2 σ2 hr2 (fun b z => ⟨z.1, rfl⟩) ok
        refine ⟨a, b, vs, vs', rfl, .inr ⟨hv, h', q (RZ.ItzT X.K a b) H2 hr2 (k1.trans k2) fun Pz hz S H σ' hr k ok' i => ?_⟩⟩
        obtain ⟨us, h1, h2⟩ := (lt.weak P1 (fun _ _ z => z)) Pz hz S H σ' hr k ok'.1
        obtain ⟨ws, g1, g2⟩ := (lt'.weak P2 (fun _ _ z => z)) Pz hz S H σ' hr k ok'.2
        refine ⟨fun d e => ?_, fun e => ⟨us, ws, h1, g1, by rw [zipD_length] at e; rw [← h2.length, ← g2.length]; omega⟩⟩
        obtain ⟨x, y, e1, e2, rfl⟩ := zipD_get _ _ _ _ e
        obtain ⟨v, h3, h4⟩ := h2.get e1
        obtain ⟨u, g3, g4⟩ := g2.get e2
        refine ⟨⟨us, ws, v, u, h1, g1, h3, g3⟩, fun x' H' y => ?_⟩
        obtain ⟨Tt, v', u', rfl, n, rfl, y1, y2⟩ := y
        have e3 := y1 us h1
        have e4 := y2 ws g1
        rw [h3] at e3; cases e3
        rw [g3] at e4; cases e4
        exact pair_new hr n h4 g4⟩⟩
end
end DL

/-! DL10: targets; comprehensions. -/
namespace DL
open PySem L2 PySem.Spec PyProof.Rows
def Tg.is : Tg → List Nat
  | .nm i => [i]
  | .tp is => is
def gNames : List Nat → TGs
  | [] => gNil
  | i :: is => gCons (gName i) (gNames is)
def tgG (K : Frag) : Tg → TG
  | .nm i => gName i
  | .tp is => gTup K is.length (gNames is)
theorem bindN_ok {K : Frag} {H : Hp} {Q : L2.St → Hp → Prop} (P : List Nat → Sl → L2.St → Prop) (hP : ∀ i is x v σ2 σ, RepV K H x v → P (i :: is) σ2 σ → P is (σ2.set i (some (.d x))) (σ.set i (some v))) :
    ∀ (is : List Nat) (xs : List D) (vs : List V) (σ2 σ2' : Sl) (σ : L2.St), bindN is xs σ2 = some σ2' → RepL K H xs vs → P is σ2 σ → (∀ σ', P [] σ2' σ' → Q σ' H) → gNames is vs σ H Q
  | [], [], vs, σ2, σ2', σ, e, r, p, q => by
    cases e; cases r
    exact ⟨rfl, q _ p⟩
  | [], x :: xs, vs, σ2, σ2', σ, e, r, p, q => by cases e
  | i :: is, [], vs, σ2, σ2', σ, e, r, p, q => by cases e
  | i :: is, x :: xs, vs, σ2, σ2', σ, e, r, p, q => by
    obtain ⟨v, vr, rfl, rv, rr⟩ := r
    exact ⟨v, vr, rfl, bindN_ok P hP is xs vr _ _ _ e rr (hP _ _ _ _ _ _ rv p) q⟩
theorem bindN_len {K : Frag} {H : Hp} : ∀ (is : List Nat) (xs : List D) (vs : List V) (σ2 σ2' : Sl), bindN is xs σ2 = some σ2' → RepL K H xs vs → vs.length = is.length
  | [], [], vs, σ2, σ2', e, r => by cases r; rfl
  | [], x :: xs, vs, σ2, σ2', e, r => by cases e
  | i :: is, [], vs, σ2, σ2', e, r => by cases e
  | i :: is, x :: xs, vs, σ2, σ2', e, r => by
    obtain ⟨v, vr, rfl, rv, rr⟩ := r
    simp [bindN_len is xs vr _ _ e rr]
theorem bindT_ok {K : Frag} {H : Hp} {Q : L2.St → Hp → Prop} {tg : Tg} {x : D} {v : V} {σ2 : Sl} {σ : L2.St} {Z : Sl → Prop} (P : List Nat → Sl → L2.St → Prop) (hP : ∀ i is x v σ2 σ, RepV K H x v → P (i :: is) σ2 σ → P is (σ2.set i (some (.d x))) (σ.set i (some v)))
    (rx : RepV K H x v) (p : P tg.is σ2 σ) (w : bindT tg x σ2 Z) (q : ∀ σ2' σ', P [] σ2' σ' → Z σ2' → Q σ' H) : tgG K tg v σ H Q := by
  unfold bindT at w
  split at w
  · exact q _ _ (hP _ _ _ _ _ _ rx p) w
  · obtain ⟨σ', e, w⟩ := w
    obtain ⟨t, vs, rfl, hs, r⟩ := rx
    exact ⟨t, vs, rfl, hs, bindN_len _ _ _ _ _ e r, bindN_ok P hP _ _ _ _ _ _ e r p fun σ3 p3 => q _ _ p3 w⟩
  · exact w.elim
theorem wipe_get (σ : L2.St) : ∀ (vs : List Nat) (i : Nat), i ∉ vs → (wipe σ vs)[i]? = σ[i]?
  | [], _, _ => rfl
  | v :: vs, i, h => by
    unfold wipe
    rw [List.getElem?_set_ne (fun e : v = i => h (by rw [e]; exact List.mem_cons_self))]
    exact wipe_get σ vs i fun z => h (List.mem_cons_of_mem _ z)
theorem wipe_set (σ : L2.St) {i : Nat} {v : Option V} : ∀ (vs : List Nat), i ∈ vs → wipe (σ.set i v) vs = wipe σ vs
  | [], h => by cases h
  | u :: vs, h => by
    unfold wipe
    by_cases e : i = u
    · subst e
      by_cases m : i ∈ vs
      · rw [wipe_set σ vs m]
      · have key : ∀ (ws : List Nat), (wipe (σ.set i v) ws).set i none = (wipe σ ws).set i none := fun ws => by
          induction ws with
          | nil => unfold wipe; rw [List.set_set]
          | cons w ws ih =>
            unfold wipe
            by_cases ew : w = i
            · subst ew; rw [List.set_set, List.set_set]; exact ih
            · rw [List.set_comm _ _ ew, List.set_comm _ _ ew, ih]
        exact key vs
    · have m : i ∈ vs := (List.mem_cons.mp h).resolve_left e
      rw [wipe_set σ vs m]
theorem wipe_wipe (σ : L2.St) (vs : List Nat) : wipe (wipe σ vs) vs = wipe σ vs := by
  have h : ∀ (ws : List Nat), (∀ i ∈ ws, i ∈ vs) → wipe (wipe σ ws) vs = wipe σ vs := fun ws => by
    induction ws with
    | nil => intro _; rfl
    | cons w ws ih =>
      intro z
      rw [show wipe σ (w :: ws) = (wipe σ ws).set w none from rfl, wipe_set _ _ (z w List.mem_cons_self)]
      exact ih fun i m => z i (List.mem_cons_of_mem _ m)
  exact h vs fun _ z => z
def tstE (tst : R) : Prop := tst = .b true
section
variable {X : Cx} {T : Tbl} {c : Nat → List Vx → Hs → VK2 → Prop} {cx : Cls2} (hc : CalMono c)
include hc
/-- an expression boxed at a turn's end: the new list D, one item more -/
theorem lc_ok {tg : Tg} {it elt tst : R} {tt : TT} {te : TE} {wi : TI} {vs : List Nat} (hv : vs = tg.is) (ht : ∀ σ H Q, liftT X.K cx (wpE T c tst) σ H Q → tt σ H Q) (he : ∀ σ H Q, liftE X.K cx (wpE T c elt) σ H Q → te σ H Q)
    (hi : ∀ σ H R, liftI X.K cx it (wpI T c it) σ H R → wi σ H R) {σ : L2.St} {H : Hp} {Q : VK} (w : liftE X.K cx (wpE T c (.comp tg elt it tst)) σ H Q) : tLc wi (tgG X.K tg) tt te vs σ H Q := by
  obtain ⟨S, σ2, hr, rs, w⟩ := w
  refine hi _ _ _ ⟨S, σ2, hr, rs, wpI_mono hc w fun J S1 w JJ H1 hr1 k1 lt Dl hD => ?_⟩
  have rs1 := rs.keep k1 hr
  have lt : ∀ S' H', Rel X.K cx S' H' → Keep S1 S' H1 H' → J.ok σ2 S' → ItG X.K cx JJ J.items S' H' := fun S' H' hr' k' o =>
    lt (fun b => S1 b = none ∧ H1 b ≠ none) (fun b z1 z2 _ => ⟨z1, z2⟩) S' H' σ2 hr' (fun b ⟨z1, z2⟩ => by
      cases q : H1 b with
      | none => exact (z2 q).elim
      | some o => exact ⟨(k'.kp b o q z1).2, (k'.kp b o q z1).1⟩) o
  refine ⟨fun i m H' => m = J.items.length - i ∧ i ≤ J.items.length ∧ ∃ S' acc vacc, Rel X.K cx S' H' ∧ Keep S1 S' H1 H' ∧ H' Dl = some (.lst vacc) ∧ S' Dl = none ∧ RepL X.K H' acc vacc ∧
    compL tg J.ok (fun σ' S' K => wpE T c elt σ' S' (one1 fun y S2 => bx y S2 K)) (fun σ' S' K => wpE T c tst σ' S' (one1 (tstK K))) σ2 (J.items.drop i) acc S' (fun ys S2 => kE X.K cx S H Q [.vl ys] S2), ⟨J.items.length, by simp, Nat.zero_le _, S1, [], [], ?_, ?_, upd_same, hr1.free hD, rfl, by simpa using w⟩, ?_⟩
  · exact hr1.upd0 (hr1.free hD) (tupS_new hD)
  · exact Keep.new hD
  rintro i m H' ⟨rfl, hle, S', acc, vacc, hr', k', hDl, sD, ra, w⟩
  by_cases hlt : i < J.items.length
  · right
    rw [List.drop_eq_getElem_cons hlt] at w
    obtain ⟨ok, w⟩ := w
    obtain ⟨hgo, hy⟩ := (lt S' H' hr' k' ok i).1 _ (List.getElem?_eq_getElem hlt)
    refine ⟨hgo, fun H4 => ∃ S' acc vacc, Rel X.K cx S' H4 ∧ Keep S1 S' H1 H4 ∧ H4 Dl = some (.lst vacc) ∧ S' Dl = none ∧ RepL X.K H4 acc vacc ∧
      compL tg J.ok (fun σ' S' K => wpE T c elt σ' S' (one1 fun y S2 => bx y S2 K)) (fun σ' S' K => wpE T c tst σ' S' (one1 (tstK K))) σ2 (J.items.drop (i + 1)) acc S' (fun ys S2 => kE X.K cx S H Q [.vl ys] S2), fun H4 z => ⟨J.items.length - (i + 1), by omega, rfl, hlt, z⟩, fun x H5 y => ?_⟩
    obtain ⟨hr5, k5, rx⟩ := hy x H5 y
    have k15 := k'.trans k5
    have rs5 := rs1.keep k15 hr1
    obtain ⟨hD5, _⟩ := k5.kp _ _ hDl sD
    have ra5 := ra.keep (k5.tups hr')
    refine bindT_ok (fun rem σa σb => (∀ j ∈ rem, j ∈ vs) ∧ wipe σb vs = wipe σ vs ∧ σa.length = σb.length ∧ ∀ (j : Nat), j ∈ rem ∨ ∀ x : Vx, σa[j]? = some (some x) → ∃ v, σb[j]? = some (some v) ∧ RepX X.K H5 S' x v)
      (fun j js x v σa σb rv ⟨p1, p2, p3, p4⟩ => ⟨fun l z => p1 l (List.mem_cons_of_mem _ z), by rw [wipe_set _ _ (p1 j List.mem_cons_self)]; exact p2, by simp [p3], fun l => ?_⟩) rx ⟨fun j z => by rw [hv]; exact z, wipe_wipe σ vs, by rw [wipe_length]; exact rs5.1, fun j => ?_⟩ w fun σa σb ⟨_, p2, p3, p4⟩ w => ?_
    · by_cases e : l = j
      · subst e
        refine .inr fun y e => ?_
        by_cases hl : l < σa.length
        · rw [List.getElem?_set_self hl] at e
          cases e
          exact ⟨v, by rw [List.getElem?_set_self (p3 ▸ hl)], rv⟩
        · rw [List.getElem?_eq_none (by simpa using Nat.le_of_not_lt hl)] at e
          cases e
      · rcases p4 l with z | z
        · exact .inl ((List.mem_cons.mp z).resolve_left e)
        · refine .inr fun y ey => ?_
          rw [List.getElem?_set_ne (Ne.symm e)] at ey ⊢
          exact z y ey
    · by_cases m : j ∈ vs
      · exact .inl (hv ▸ m)
      · refine .inr fun y e => ?_
        rw [wipe_get _ _ _ m]
        exact rs5.2 j y e
    have rsb : RelX X.K S' H5 σa σb := ⟨p3, fun j y e => (p4 j).elim (fun z => by cases z) fun z => z y e⟩
    refine ⟨p2, ht _ _ _ (stepT hc hr5 rsb w fun b S6 H6 hr6 k6 rs6 w => ?_)⟩
    obtain ⟨hD6, sD6⟩ := k6.kp _ _ hD5 sD
    have ra6 := ra5.keep (k6.tups hr5)
    cases b with
    | false =>
      rw [if_neg (by decide)]
      exact ⟨S6, acc, vacc, hr6, k15.trans k6, hD6, sD6, ra6, w.f rfl⟩
    | true =>
      rw [if_pos rfl]
      refine he _ _ _ (stepE hc hr6 rs6 (w.t rfl) fun y S7 v H7 hr7 k7 rs7 r7 w => ?_)
      obtain ⟨hD7, sD7⟩ := k7.kp _ _ hD6 sD6
      have ra7 := ra6.keep (k7.tups hr6)
      have tk : TupS X.K H7 (upd H7 Dl (.lst (vacc ++ [v]))) := tupS_upd fun o e => by rw [hD7] at e; cases e; rfl
      have k17 := (k15.trans k6).trans k7
      have fin : ∀ (d : D) (S8 : Hs), Rel X.K cx S8 H7 → (∀ b o, H1 b = some o → S7 b = none → S8 b = none) → S8 Dl = none → RepV X.K H7 d v → acc.length < sizeLine → compL tg J.ok (fun σ' S' K => wpE T c elt σ' S' (one1 fun y S2 => bx y S2 K)) (fun σ' S' K => wpE T c tst σ' S' (one1 (tstK K))) σ2 (J.items.drop (i + 1)) (acc ++ [d]) S8 (fun ys S2 => kE X.K cx S H Q [.vl ys] S2) →
          ∃ acc', H7 Dl = some (.lst acc') ∧ acc'.length < sizeLine ∧ ∃ S' acc vacc, Rel X.K cx S' (upd H7 Dl (.lst (acc' ++ [v]))) ∧ Keep S1 S' H1 (upd H7 Dl (.lst (acc' ++ [v]))) ∧ (upd H7 Dl (.lst (acc' ++ [v]))) Dl = some (.lst vacc) ∧ S' Dl = none ∧ RepL X.K (upd H7 Dl (.lst (acc' ++ [v]))) acc vacc ∧
            compL tg J.ok (fun σ' S' K => wpE T c elt σ' S' (one1 fun y S2 => bx y S2 K)) (fun σ' S' K => wpE T c tst σ' S' (one1 (tstK K))) σ2 (J.items.drop (i + 1)) acc S' (fun ys S2 => kE X.K cx S H Q [.vl ys] S2) := fun d S8 hr8 hk sD8 rv hz w =>
        ⟨vacc, hD7, by rw [← ra.length]; exact hz, S8, acc ++ [d], vacc ++ [v], hr8.upd0 sD8 tk, ⟨fun b o e n => ?_, fun b e => ?_⟩, upd_same, sD8, (ra7.keep tk).append (.cons (RepV.keep tk _ _ rv) .nil), w⟩
      · cases y with
        | d y => exact fin _ S7 hr7 (fun b o _ z => z) sD7 r7.1 w.1 w.2
        | vl ds =>
          obtain ⟨a, us, rfl, ha, sa, ru⟩ := r7.1
          obtain ⟨a', ea, na⟩ := r7.2 rfl
          cases ea
          have ne : Dl ≠ a := fun z => by subst z; rw [hD6] at na; cases na
          have w := w a sa
          refine fin (.ref a) (su S7 a (.lst _)) (hr7.box ⟨us, ha, ru⟩) (fun b o e z => ?_) (by rw [su_ne ne]; exact sD7) rfl w.1 w.2
          have nb : b ≠ a := fun z => by
            subst z
            have h1 := (k15.trans k6).up _ na
            rw [e] at h1; cases h1
          rw [su_ne nb]; exact z
        | vd ds =>
          obtain ⟨a, us, rfl, ha, sa, ru⟩ := r7.1
          obtain ⟨a', ea, na⟩ := r7.2 rfl
          cases ea
          have ne : Dl ≠ a := fun z => by subst z; rw [hD6] at na; cases na
          have w := w a sa
          refine fin (.ref a) (su S7 a (.dic _)) (hr7.box ⟨us, ha, ru⟩) (fun b o e z => ?_) (by rw [su_ne ne]; exact sD7) rfl w.1 w.2
          have nb : b ≠ a := fun z => by
            subst z
            have h1 := (k15.trans k6).up _ na
            rw [e] at h1; cases h1
          rw [su_ne nb]; exact z
        | bw ds => exact w.elim
        | fz ds => exact w.elim
        | bd ds => exact w.elim
        | st ds => exact w.elim
      · obtain ⟨h1, h2⟩ := k17.kp b o e n
        refine ⟨?_, hk b o e h2⟩
        rw [upd_ne (fun z => by subst z; rw [e] at hD; cases hD)]
        exact h1
      · refine k17.up b ?_
        by_cases z : b = Dl
        · subst z; rw [upd_same] at e; cases e
        · rw [upd_ne z] at e; exact e
  · have e : i = J.items.length := by omega
    subst e
    rw [List.drop_length] at w
    obtain ⟨ok, x, ex, q⟩ := w
    cases ex
    refine .inl ⟨(lt S' H' hr' k' ok _).2 rfl, q _ _ hr' (k1.trans k') ⟨⟨Dl, vacc, rfl, hDl, sD, ra⟩, fun _ => ⟨Dl, rfl, k1.up _ hD⟩⟩⟩
end
end DL

/-! DL11: statements are sound. -/
namespace DL
open PySem L2 PySem.Spec PyProof.Rows
section
variable {X : Cx} {T : Tbl} {c : Nat → List Vx → Hs → VK2 → Prop} {cx : Cls2} (hc : CalMono c)
include hc
theorem ptsImp {ifs : List Expr} {t t' : TT} (h : PTs X ifs t) (i : ∀ σ H Q, t' σ H Q → t σ H Q) : PTs X ifs t' := ⟨fun pins s σ H Q I w => h.run pins s σ H Q I (i _ _ _ w)⟩
theorem pts_tt : PTs X [] (liftT X.K cx (wpE T c (.b true))) := ptsImp hc pts_nil fun σ H Q ⟨S, σ2, hr, rs, w⟩ => w H hr .refl
theorem snd_comp {tg : Tg} {it elt tst : R} {eelt etg eiter : Expr} {ifs : List Expr} {scope : Scope} {own : List (Str × Nat)} {pos : Pos} (hcalm : X.calm = true) (hN : X.N.Nodup) (hi : PI X etg eiter (liftI X.K cx it (wpI T c it))) (ok : BlkOk X.N X.env.scope scope own) (hv : own.map (·.2) = tg.is)
    (hg : ∀ (s : Shared) (H : Hp) (C : Addr) (cl : List (Str × Addr)) (fp : List Addr), PG (X.blk s H scope (compEnvC scope cl C X.env) fp) etg (tgG X.K tg))
    (ht : ∀ (s : Shared) (H : Hp) (C : Addr) (cl : List (Str × Addr)) (fp : List Addr), PTs (X.blk s H scope (compEnvC scope cl C X.env) fp) ifs (liftT X.K cx (wpE T c tst)))
    (he : ∀ (s : Shared) (H : Hp) (C : Addr) (cl : List (Str × Addr)) (fp : List Addr), PE (X.blk s H scope (compEnvC scope cl C X.env) fp) eelt (liftE X.K cx (wpE T c elt)))
    (hs : ∀ x, foldedSetIterable eiter X.env x = pure x) : PE X (.ListComp eelt [⟨etg, eiter, ifs, 0⟩] scope pos) (liftE X.K cx (wpE T c (.comp tg elt it tst))) :=
  peImp (pe_lc hcalm hN hi ok hg ht he hs) fun σ H Q w => lc_ok hc hv (fun _ _ _ h => h) (fun _ _ _ h => h) (fun _ _ _ h => h) w
end

/-! ### statements -/
structure Bs where
  pd : Addr → Prop
  hb : Hp
  h0 : Hp
structure Bs.Le (B B' : Bs) : Prop where
  pd : ∀ b, B.pd b → B'.pd b ∧ B'.hb b = B.hb b
  h0 : B'.h0 = B.h0
theorem Bs.Le.refl {B : Bs} : B.Le B := ⟨fun _ h => ⟨h, rfl⟩, rfl⟩
theorem Bs.Le.trans {A B C : Bs} (h : A.Le B) (k : B.Le C) : A.Le C := ⟨fun b z => ⟨(k.pd b (h.pd b z).1).1, (k.pd b (h.pd b z).1).2.trans (h.pd b z).2⟩, k.h0.trans h.h0⟩
structure KeepB (B : Bs) (S : Hs) (H : Hp) : Prop where
  st : ∀ b, B.pd b → S b = none ∧ H b = B.hb b ∧ H b ≠ none
  hn : ∀ b, H b = none → B.h0 b = none
def lent : Vx → Bool
  | .bw _ => true
  | .bd _ => true
  | _ => false
structure RelS (B : Bs) (K : Frag) (S : Hs) (H : Hp) (σ2 : Sl) (σ : L2.St) : Prop where
  rx : RelX K S H σ2 σ
  ow : ∀ (i : Nat) (x : Vx) (a : Addr), σ2[i]? = some (some x) → own x = true → σ[i]? = some (some (.ref a)) → ¬ B.pd a ∧ B.h0 a = none ∧ ∀ (j : Nat) (y : Vx), σ2[j]? = some (some y) → own y = true → σ[j]? = some (some (.ref a)) → j = i
  lt : ∀ (i : Nat) (x : Vx) (a : Addr), σ2[i]? = some (some x) → lent x = true → σ[i]? = some (some (.ref a)) → B.pd a
section
variable {K : Frag} {cx : Cls2} {S S' S1 : Hs} {H H' H1 H0 : Hp} {σ2 : Sl} {σ : L2.St} {B B' : Bs}
theorem KeepB.le (l : B.Le B') (k : KeepB B' S H) : KeepB B S H := ⟨fun b z => let ⟨h1, h2⟩ := l.pd b z; let ⟨g1, g2, g3⟩ := k.st b h1; ⟨g1, g2.trans h2, g3⟩, fun b z => by rw [← l.h0]; exact k.hn b z⟩
theorem KeepB.keep (k : Keep S S' H H') (kb : KeepB B S H) : KeepB B S' H' := ⟨fun b z => by
  obtain ⟨h1, h2, h3⟩ := kb.st b z
  cases q : H b with
  | none => exact (h3 q).elim
  | some o =>
    obtain ⟨g1, g2⟩ := k.kp b o q h1
    exact ⟨g2, by rw [g1, ← h2, q], by rw [g1]; simp⟩, fun b z => kb.hn b (k.up b z)⟩
theorem RelS.keep (k : Keep S S' H H') (hr : Rel K cx S H) (r : RelS B K S H σ2 σ) : RelS B K S' H' σ2 σ := ⟨r.rx.keep k hr, r.ow, r.lt⟩
theorem RelS.le {r : RelS B' K S H σ2 σ} : RelX K S H σ2 σ := r.rx
/-- a slot's owned place is a list or a dict -/
theorem RelX.ownH (r : RelX K S H σ2 σ) {i : Nat} {x : Vx} {a : Addr} (e : σ2[i]? = some (some x)) (o : own x = true) (e' : σ[i]? = some (some (.ref a))) : H a ≠ none ∧ S a = none := by
  obtain ⟨v, h1, h2⟩ := r.2 i x e
  rw [e'] at h1; cases h1
  cases x with
  | vl ds => obtain ⟨b, us, eb, h, n, _⟩ := h2; cases eb; exact ⟨by rw [h]; simp, n⟩
  | vd ds => obtain ⟨b, us, eb, h, n, _⟩ := h2; cases eb; exact ⟨by rw [h]; simp, n⟩
  | _ => cases o
/-- a slot is set -/
theorem RelS.set {i : Nat} {x : Vx} {v : V} (r : RelS B K S H σ2 σ) (rx : RepX K H S x v) (ho : own x = true → ∀ a, v = .ref a → ¬ B.pd a ∧ B.h0 a = none ∧ ∀ (j : Nat) (y : Vx), j ≠ i → σ2[j]? = some (some y) → own y = true → σ[j]? ≠ some (some (.ref a)))
    (hl : lent x = true → ∀ a, v = .ref a → B.pd a) : RelS B K S H (σ2.set i (some x)) (σ.set i (some v)) := by
  have at_i : ∀ {y : Vx}, (σ2.set i (some x))[i]? = some (some y) → y = x ∧ i < σ2.length := fun {y} e => by
    by_cases hl : i < σ2.length
    · rw [List.getElem?_set_self hl] at e; cases e; exact ⟨rfl, hl⟩
    · rw [List.getElem?_eq_none (by simpa using Nat.le_of_not_lt hl)] at e; cases e
  have len := r.rx.1
  refine ⟨⟨by simp [len], fun j y e => ?_⟩, fun j y a e o e' => ?_, fun j y a e o e' => ?_⟩
  · by_cases z : j = i
    · subst z
      obtain ⟨rfl, hlt⟩ := at_i e
      exact ⟨v, by rw [List.getElem?_set_self (len ▸ hlt)], rx⟩
    · rw [List.getElem?_set_ne (Ne.symm z)] at e ⊢
      exact r.rx.2 j y e
  · by_cases z : j = i
    · subst z
      obtain ⟨rfl, hlt⟩ := at_i e
      rw [List.getElem?_set_self (len ▸ hlt)] at e'
      cases e'
      obtain ⟨h1, h2, h3⟩ := ho o a rfl
      refine ⟨h1, h2, fun k y ek ok ek' => ?_⟩
      by_cases zk : k = j
      · exact zk
      · rw [List.getElem?_set_ne (Ne.symm zk)] at ek ek'
        exact (h3 k y zk ek ok ek').elim
    · rw [List.getElem?_set_ne (Ne.symm z)] at e e'
      obtain ⟨h1, h2, h3⟩ := r.ow j y a e o e'
      refine ⟨h1, h2, fun k w ek ok ek' => ?_⟩
      by_cases zk : k = i
      · subst zk
        obtain ⟨rfl, hlt⟩ := at_i ek
        rw [List.getElem?_set_self (len ▸ hlt)] at ek'
        cases ek'
        exact ((ho ok a rfl).2.2 j y z e o e').elim
      · rw [List.getElem?_set_ne (Ne.symm zk)] at ek ek'
        exact h3 k w ek ok ek'
  · by_cases z : j = i
    · subst z
      obtain ⟨rfl, hlt⟩ := at_i e
      rw [List.getElem?_set_self (len ▸ hlt)] at e'
      cases e'
      exact hl o a rfl
    · rw [List.getElem?_set_ne (Ne.symm z)] at e e'
      exact r.lt j y a e o e'
theorem RelS.setD {i : Nat} {d : D} {v : V} (r : RelS B K S H σ2 σ) (rx : RepV K H d v) : RelS B K S H (σ2.set i (some (.d d))) (σ.set i (some v)) := r.set rx (fun e => by cases e) (fun e => by cases e)
/-- a new value is stored -/
theorem RelS.setN {i : Nat} {x : Vx} {v : V} (kb : KeepB B S H) (r : RelS B K S H σ2 σ) (k : Keep S S1 H H1) (hr : Rel K cx S H) (rx : RepR K H H1 S1 x v) (hl : lent x = false) : RelS B K S1 H1 (σ2.set i (some x)) (σ.set i (some v)) :=
  (r.keep k hr).set rx.1 (fun o a e => by
    obtain ⟨a', e', n⟩ := rx.2 o
    rw [e] at e'; cases e'
    exact ⟨fun p => (kb.st a p).2.2 n, kb.hn a n, fun j y ne ej oj ej' => (r.rx.ownH ej oj ej').1 n⟩) (fun e => by rw [hl] at e; cases e)
theorem stor_of {x : Vx} {P : Prop} (h : stor x P) : lent x = false ∧ P := by
  cases x <;> first | exact ⟨rfl, h⟩ | exact h.elim
abbrev WS := Sl → Hs → SK2 → VK2 → SK2 → SK2 → Prop
def nxS (K : Frag) (cx : Cls2) (B : Bs) (N : L2.St → Hp → Prop) : SK2 := fun σ2 S => ∀ B' σ H, B.Le B' → Rel K cx S H → RelS B' K S H σ2 σ → KeepB B' S H → N σ H
def rtS (K : Frag) (cx : Cls2) (B : Bs) (N : V → Hp → Prop) : VK2 := fun x S => ∀ B' v H, B.Le B' → Rel K cx S H → KeepB B' S H → RepX K H S x v → (own x = true → ∃ a, v = .ref a ∧ B.h0 a = none) → N v H
def liftS (K : Frag) (cx : Cls2) (w : WS) : TS := fun D σ H => ∃ B S σ2, Rel K cx S H ∧ RelS B K S H σ2 σ ∧ KeepB B S H ∧ w σ2 S (nxS K cx B D.nx) (rtS K cx B D.rt) (nxS K cx B D.bk) (nxS K cx B D.ct)
theorem nxS.le {N : L2.St → Hp → Prop} (l : B.Le B') {σ2 : Sl} {S : Hs} (h : nxS K cx B N σ2 S) : nxS K cx B' N σ2 S := fun B2 σ H l2 => h B2 σ H (l.trans l2)
theorem rtS.le {N : V → Hp → Prop} (l : B.Le B') {x : Vx} {S : Hs} (h : rtS K cx B N x S) : rtS K cx B' N x S := fun B2 v H l2 hr kb r o => h B2 v H (l.trans l2) hr kb r fun e => let ⟨a, h1, h2⟩ := o e; ⟨a, h1, by rw [← l.h0]; exact h2⟩
end
section
variable {X : Cx} {T : Tbl} {c : Nat → List Vx → Hs → VK2 → Prop} {cx : Cls2}
theorem psImp {st : Stmt} {t t' : TS} (h : PS X st t) (i : ∀ D σ H, t' D σ H → t D σ H) : PS X st t' := ⟨fun pins s σ H D I w => h.run pins s σ H D I (i _ _ _ w)⟩
theorem pssImp {st : List Stmt} {t t' : TS} (h : PSs X st t) (i : ∀ D σ H, t' D σ H → t D σ H) : PSs X st t' := ⟨fun pins s σ H D I w => h.run pins s σ H D I (i _ _ _ w)⟩
variable (hc : CalMono c)
include hc
theorem stepSE {K : Frag} {S : Hs} {H : Hp} {σ2 : Sl} {σ : L2.St} {B : Bs} {r : R} {P : VK2} {Q : VK} (hr : Rel K cx S H) (rs : RelS B K S H σ2 σ) (kb : KeepB B S H) (w : wpE T c r σ2 S (one1 P))
    (h : ∀ x S1 v H1, Rel K cx S1 H1 → Keep S S1 H H1 → RelS B K S1 H1 σ2 σ → KeepB B S1 H1 → RepR K H H1 S1 x v → P x S1 → Q v H1) : liftE K cx (wpE T c r) σ H Q :=
  stepE hc hr rs.rx w fun x S1 v H1 hr1 k1 rs1 r1 p => h x S1 v H1 hr1 k1 (rs.keep k1 hr) (kb.keep k1) r1 p
theorem st_seq {a r : R} {st : Stmt} {rest : List Stmt} (h1 : PS X st (liftS X.K cx (wpS T c a))) (h2 : PSs X rest (liftS X.K cx (wpS T c r))) : PSs X (st :: rest) (liftS X.K cx (wpS T c (.seq a r))) :=
  pssImp (pss_cons h1 h2) fun D σ H ⟨B, S, σ2, hr, rs, kb, w⟩ => ⟨B, S, σ2, hr, rs, kb, wpS_mono hc (fun σ' S' w B' σ1 H1 l hr1 rs1 kb1 => ⟨B', S', σ', hr1, rs1, kb1, wpS_mono hc (fun _ _ => nxS.le l) (fun _ _ => rtS.le l) (fun _ _ => nxS.le l) (fun _ _ => nxS.le l) w⟩)
    (fun _ _ z => z) (fun _ _ z => z) (fun _ _ z => z) w⟩
theorem st_one {a : R} {st : Stmt} (h1 : PS X st (liftS X.K cx (wpS T c a))) : PSs X [st] (liftS X.K cx (wpS T c a)) := pss_one h1
theorem st_skip : PSs X [] (liftS X.K cx (wpS T c .skip)) := pssImp pss_nil fun D σ H ⟨B, S, σ2, hr, rs, kb, w⟩ => w B σ H .refl hr rs kb
theorem st_pass {pos : Pos} : PS X (.Pass pos) (liftS X.K cx (wpS T c .skip)) := psImp ps_pass fun D σ H ⟨B, S, σ2, hr, rs, kb, w⟩ => w B σ H .refl hr rs kb
theorem st_brk {pos : Pos} : PS X (.Break pos) (liftS X.K cx (wpS T c .brk)) := psImp ps_break fun D σ H ⟨B, S, σ2, hr, rs, kb, w⟩ => w B σ H .refl hr rs kb
theorem st_cnt {pos : Pos} : PS X (.Continue pos) (liftS X.K cx (wpS T c .cnt)) := psImp ps_continue fun D σ H ⟨B, S, σ2, hr, rs, kb, w⟩ => w B σ H .refl hr rs kb
theorem st_never {st : Stmt} : PS X st (liftS X.K cx (wpS T c .never)) := psImp ps_never fun D σ H ⟨B, S, σ2, hr, rs, kb, w⟩ => w
theorem st_nevers {st : List Stmt} : PSs X st (liftS X.K cx (wpS T c .never)) := pssImp pss_never fun D σ H ⟨B, S, σ2, hr, rs, kb, w⟩ => w
theorem st_expr {e : R} {ee : Expr} {pos : Pos} (he : PE X ee (liftE X.K cx (wpE T c e))) (hs : swapsWith ee none pos.line X.env = pure false) : PS X (.Expr ee pos) (liftS X.K cx (wpS T c (.expr e))) :=
  psImp (ps_expr he hs) fun D σ H ⟨B, S, σ2, hr, rs, kb, w⟩ => stepSE hc hr rs kb w fun x S1 v H1 hr1 k1 rs1 kb1 r1 w => w B σ H1 .refl hr1 rs1 kb1
theorem st_set {i : Nat} {e : R} {st : Stmt} {te : TE} (h : PS X st (tAsg te (gName i))) (ht : ∀ σ H Q, liftE X.K cx (wpE T c e) σ H Q → te σ H Q) : PS X st (liftS X.K cx (wpS T c (.set i e))) :=
  psImp h fun D σ H ⟨B, S, σ2, hr, rs, kb, w⟩ => ht _ _ _ (stepSE hc hr rs kb w fun x S1 v H1 hr1 k1 rs1 kb1 r1 w => by
    obtain ⟨hl, w⟩ := stor_of w
    exact w B _ H1 .refl hr1 (rs.setN kb k1 hr r1 hl) kb1)
/-- (a, b, ..) = a list or a tuple -/
def gSeq (K : Frag) (n : Nat) (t : TGs) : TG := fun v σ H Q => ∃ a xs, v = .ref a ∧ (SqL K H a xs ∨ SqT K H a xs) ∧ xs.length = n ∧ t xs σ H Q
omit hc in
theorem pg_seq {es : List Expr} {k : Nat} {t : TGs} {n : Nat} {pos : Pos} (hcalm : X.calm = true) (h : PGs X es t) (hn : (assignEach es X.env).length = n) (hst : (assignEach es X.env).findIdx? (·.1) = none) : PG X (.Tuple es k pos) (gSeq X.K n t) :=
  ⟨fun pins s σ H v u Q I r ⟨a, xs, e, hq, hl, hw⟩ => by
    rcases hq with hq | hq
    · exact (pg_lst hcalm h hn hst).run pins s σ H v u Q I r ⟨a, xs, e, hq, hl, hw⟩
    · exact (pg_tup hcalm h hn hst).run pins s σ H v u Q I r ⟨a, xs, e, hq, hl, hw⟩⟩
theorem st_setT {is : List Nat} {e : R} {st : Stmt} (h : PS X st (tAsg (liftE X.K cx (wpE T c e)) (gSeq X.K is.length (gNames is)))) : PS X st (liftS X.K cx (wpS T c (.setT is e))) :=
  psImp h fun D σ H ⟨B, S, σ2, hr, rs, kb, w⟩ => stepSE hc hr rs kb w fun x S1 v H1 hr1 k1 rs1 kb1 r1 w => by
    obtain ⟨cn, ⟨ds, e1, σ', e2, w⟩, hcn⟩ := view_of hr1 r1.1 w
    have key : ∀ (a : Addr) (vs : List V), v = .ref a → (SqL X.K H1 a vs ∨ SqT X.K H1 a vs) → RepL X.K H1 ds vs → gSeq X.K is.length (gNames is) v σ H1 D.nx := fun a vs ev hs r =>
      ⟨a, vs, ev, hs, bindN_len _ _ _ _ _ e2 r, bindN_ok (fun _ σa σb => RelS B X.K S1 H1 σa σb) (fun i is x v σa σb rv p => p.setD rv) _ _ _ _ _ _ e2 r rs1 fun σb p => w B σb H1 .refl hr1 p kb1⟩
    cases cn with
    | l ds' => cases e1; obtain ⟨p, vs, ev, h, r⟩ := hcn; exact key p vs ev (.inl (SqL.of h)) r
    | f ds' => cases e1; obtain ⟨p, vs, ev, h, r⟩ := hcn; exact key p vs ev (.inl h) r
    | t ds' => cases e1; obtain ⟨p, vs, ev, h, r⟩ := hcn; exact key p vs ev (.inr h) r
    | _ => cases e1
end
end DL

/-! DL12: statements, further. -/
namespace DL
open PySem L2 PySem.Spec PyProof.Rows
theorem lend_idem (x : Vx) : lendX (lendX x) = lendX x := by cases x <;> rfl
theorem lend_own {x : Vx} (h : own (lendX x) = true) : lendX x = x := by cases x <;> first | rfl | cases h
theorem lend_lb (x : Vx) : lentB (lendX x) = lentB x := by cases x <;> rfl
theorem RepX.lend {K : Frag} {H : Hp} {S : Hs} {x : Vx} {v : V} (r : RepX K H S x v) : RepX K H S (lendX x) v := by cases x <;> exact r
theorem dem_itv (i : Nat) (σ2 : Sl) : (dem (.itv i) σ2).length = σ2.length ∧ (∀ (j : Nat) (y : Vx), (dem (.itv i) σ2)[j]? = some (some y) → ∃ x, σ2[j]? = some (some x) ∧ (y = lendX x ∨ (j ≠ i ∧ y = x))) ∧ ∀ (j : Nat) (x : Vx), σ2[j]? = some (some x) → ∃ y, (dem (.itv i) σ2)[j]? = some (some y) ∧ (y = x ∨ y = lendX x) := by
  show (match σ2[i]? with | some (some x) => σ2.set i (some (lendX x)) | _ => σ2 : Sl).length = _ ∧ (∀ (j : Nat) (y : Vx), (match σ2[i]? with | some (some x) => σ2.set i (some (lendX x)) | _ => σ2 : Sl)[j]? = _ → _) ∧ ∀ (j : Nat) (x : Vx), _ → ∃ y, (match σ2[i]? with | some (some x) => σ2.set i (some (lendX x)) | _ => σ2 : Sl)[j]? = _ ∧ _
  split
  · rename_i x0 e0
    have hi := (List.getElem?_eq_some_iff.mp e0).1
    refine ⟨by simp, fun j y e => ?_, fun j x e => ?_⟩
    · by_cases z : j = i
      · subst z
        rw [List.getElem?_set_self hi] at e; cases e
        exact ⟨x0, e0, .inl rfl⟩
      · rw [List.getElem?_set_ne (Ne.symm z)] at e
        exact ⟨y, e, .inr ⟨z, rfl⟩⟩
    · by_cases z : j = i
      · subst z
        rw [e0] at e; cases e
        exact ⟨_, by rw [List.getElem?_set_self hi], .inr rfl⟩
      · exact ⟨x, by rw [List.getElem?_set_ne (Ne.symm z)]; exact e, .inl rfl⟩
  · rename_i h
    refine ⟨rfl, fun j y e => ⟨y, e, ?_⟩, fun j x e => ⟨x, e, .inl rfl⟩⟩
    by_cases z : j = i
    · subst z; exact (h _ e).elim
    · exact .inr ⟨z, rfl⟩
theorem dem_sub : ∀ (it : R) (σ2 : Sl), (dem it σ2).length = σ2.length ∧ (∀ (j : Nat) (y : Vx), (dem it σ2)[j]? = some (some y) → ∃ x, σ2[j]? = some (some x) ∧ (y = x ∨ y = lendX x)) ∧ ∀ (j : Nat) (x : Vx), σ2[j]? = some (some x) → ∃ y, (dem it σ2)[j]? = some (some y) ∧ (y = x ∨ y = lendX x) := by
  intro it
  induction it with
  | itv i => exact fun σ2 => ⟨(dem_itv i σ2).1, fun j y e => let ⟨x, e', h⟩ := (dem_itv i σ2).2.1 j y e; ⟨x, e', h.elim .inr fun z => .inl z.2⟩, (dem_itv i σ2).2.2⟩
  | enu a ih => exact ih
  | zip a b iha ihb =>
    intro σ2
    obtain ⟨a1, a2, a3⟩ := iha σ2
    obtain ⟨b1, b2, b3⟩ := ihb (dem a σ2)
    refine ⟨b1.trans a1, fun j y e => ?_, fun j x e => ?_⟩
    · obtain ⟨x1, e1, h1⟩ := b2 j y e
      obtain ⟨x0, e0, h0⟩ := a2 j x1 e1
      refine ⟨x0, e0, ?_⟩
      rcases h1 with rfl | rfl
      · exact h0
      · rcases h0 with rfl | rfl
        · exact .inr rfl
        · exact .inr (lend_idem _)
    · obtain ⟨x1, e1, h1⟩ := a3 j x e
      obtain ⟨x2, e2, h2⟩ := b3 j x1 e1
      refine ⟨x2, e2, ?_⟩
      rcases h2 with rfl | rfl
      · exact h1
      · rcases h1 with rfl | rfl
        · exact .inr rfl
        · exact .inr (lend_idem _)
  | _ => exact fun σ2 => ⟨rfl, fun j y e => ⟨y, e, .inl rfl⟩, fun j x e => ⟨x, e, .inl rfl⟩⟩
theorem dem_own {it : R} {σ2 : Sl} {j : Nat} {y : Vx} (e : (dem it σ2)[j]? = some (some y)) (o : own y = true) : σ2[j]? = some (some y) := by
  obtain ⟨x, e', h⟩ := (dem_sub it σ2).2.1 j y e
  rcases h with rfl | rfl
  · exact e'
  · rw [lend_own o]; exact e'
def Dist (σ2 : Sl) (σ : L2.St) : Prop := ∀ (i j : Nat) (x y : Vx) (b : Addr), σ2[j]? = some (some y) → own y = true → σ[j]? = some (some (.ref b)) → σ2[i]? = some (some x) → lentB x = true → σ[i]? = some (some (.ref b)) → i = j
theorem srcA_dem (a : R) {σ2 : Sl} {σ : L2.St} {b : Addr} : ∀ (it : R), srcA it σ2 σ b → srcA it (dem a σ2) σ b := by
  intro it
  induction it with
  | itv i =>
    rintro ⟨x, e, l, e'⟩
    obtain ⟨y, e2, h⟩ := (dem_sub a σ2).2.2 i x e
    refine ⟨y, e2, ?_, e'⟩
    rcases h with rfl | rfl
    · exact l
    · rw [lend_lb]; exact l
  | enu a ih => exact ih
  | zip a b iha ihb => exact fun h => h.elim (fun z => .inl (iha z)) fun z => .inr (ihb z)
  | _ => exact fun h => h.elim
theorem Dist.dem (a : R) {σ2 : Sl} {σ : L2.St} (h : Dist σ2 σ) : Dist (dem a σ2) σ := fun i j x y b ej oj ej' ei li ei' => by
  obtain ⟨x0, e0, h0⟩ := (dem_sub a σ2).2.1 i x ei
  refine h i j x0 y b (dem_own ej oj) oj ej' e0 ?_ ei'
  rcases h0 with rfl | rfl
  · exact li
  · rwa [lend_lb] at li
theorem dem_src {σ : L2.St} {b : Addr} : ∀ (it : R) (σ2 : Sl), Dist σ2 σ → srcA it σ2 σ b → ¬ OwnA (dem it σ2) σ b := by
  intro it
  induction it with
  | itv i =>
    rintro σ2 d ⟨x, e, l, e'⟩ ⟨j, y, ej, oj, ej'⟩
    have ij := d i j x y b (dem_own ej oj) oj ej' e l e'
    subst ij
    obtain ⟨x0, e0, h0⟩ := (dem_itv i σ2).2.1 i y ej
    rcases h0 with rfl | ⟨z, _⟩
    · rw [e] at e0; cases e0
      cases x <;> first | cases l; done | cases oj
    · exact z rfl
  | enu a ih => exact ih
  | zip a a' iha ihb =>
    rintro σ2 d (h | h) ⟨j, y, ej, oj, ej'⟩
    · exact iha σ2 d h ⟨j, y, dem_own ej oj, oj, ej'⟩
    · exact ihb (DL.dem a σ2) (d.dem a) (srcA_dem a a' h) ⟨j, y, ej, oj, ej'⟩
  | _ => exact fun σ2 d h => h.elim
theorem RelS.dist {B : Bs} {K : Frag} {S : Hs} {H : Hp} {σ2 : Sl} {σ : L2.St} (r : RelS B K S H σ2 σ) : Dist σ2 σ := fun i j x y b ej oj ej' ei li ei' => by
  obtain ⟨h1, h2, h3⟩ := r.ow j y b ej oj ej'
  cases x with
  | vl ds => exact h3 i _ ei rfl ei'
  | bw ds => exact (h1 (r.lt i _ b ei rfl ei')).elim
  | _ => cases li
/-- the base of a loop -/
def loopB (B : Bs) (S1 : Hs) (H1 : Hp) (σ2 : Sl) (σ : L2.St) : Bs := ⟨fun b => S1 b = none ∧ H1 b ≠ none ∧ ¬ OwnA σ2 σ b, H1, B.h0⟩
section
variable {K : Frag} {cx : Cls2} {S1 : Hs} {H1 : Hp} {σ2 : Sl} {σ : L2.St} {B : Bs}
theorem loop_le (it : R) (kb : KeepB B S1 H1) (rs : RelS B K S1 H1 σ2 σ) : B.Le (loopB B S1 H1 (dem it σ2) σ) := ⟨fun b z => by
  obtain ⟨h1, h2, h3⟩ := kb.st b z
  exact ⟨⟨h1, h3, fun ⟨i, x, e, o, e'⟩ => (rs.ow i x b (dem_own e o) o e').1 z⟩, h2⟩, rfl⟩
theorem loop_kb (it : R) (kb : KeepB B S1 H1) : KeepB (loopB B S1 H1 (dem it σ2) σ) S1 H1 := ⟨fun b z => ⟨z.1, rfl, z.2.1⟩, kb.hn⟩
theorem loop_rs (it : R) (rs : RelS B K S1 H1 σ2 σ) : RelS (loopB B S1 H1 (dem it σ2) σ) K S1 H1 (dem it σ2) σ := by
  refine ⟨⟨(dem_sub it σ2).1.trans rs.rx.1, fun i y e => ?_⟩, fun i y a e o e' => ⟨fun z => z.2.2 ⟨i, y, e, o, e'⟩, (rs.ow i y a (dem_own e o) o e').2.1, fun j w ej oj ej' => (rs.ow i y a (dem_own e o) o e').2.2 j w (dem_own ej oj) oj ej'⟩, fun i y a e l e' => ?_⟩
  · obtain ⟨x, e0, h⟩ := (dem_sub it σ2).2.1 i y e
    obtain ⟨v, h1, h2⟩ := rs.rx.2 i x e0
    refine ⟨v, h1, ?_⟩
    rcases h with rfl | rfl
    · exact h2
    · exact h2.lend
  · obtain ⟨x, e0, h⟩ := (dem_sub it σ2).2.1 i y e
    obtain ⟨v, h1, h2⟩ := rs.rx.2 i x e0
    rw [e'] at h1; cases h1
    have hx : lent x = true ∨ own x = true := by
      rcases h with rfl | rfl
      · exact .inl l
      · cases x <;> first | exact .inl rfl | exact .inr rfl | cases l
    have hz : S1 a = none ∧ H1 a ≠ none := by
      rcases h with rfl | rfl
      · cases y with
        | bw ds => obtain ⟨p, us, ep, hp, np, _⟩ := h2; cases ep; exact ⟨np, by rw [hp]; simp⟩
        | bd ds => obtain ⟨p, us, ep, hp, np, _⟩ := h2; cases ep; exact ⟨np, by rw [hp]; simp⟩
        | _ => cases l
      · cases x with
        | vl ds => obtain ⟨p, us, ep, hp, np, _⟩ := h2; cases ep; exact ⟨np, by rw [hp]; simp⟩
        | bw ds => obtain ⟨p, us, ep, hp, np, _⟩ := h2; cases ep; exact ⟨np, by rw [hp]; simp⟩
        | bd ds => obtain ⟨p, us, ep, hp, np, _⟩ := h2; cases ep; exact ⟨np, by rw [hp]; simp⟩
        | _ => cases l
    refine ⟨hz.1, hz.2, fun ⟨j, w, ej, oj, ej'⟩ => ?_⟩
    obtain ⟨g1, g2, g3⟩ := rs.ow j w a (dem_own ej oj) oj ej'
    rcases hx with hx | hx
    · exact g1 (rs.lt i x a e0 hx e')
    · have ij := g3 i x e0 hx e'
      subst ij
      rw [ej] at e; cases e
      cases y <;> first | cases l; done | cases oj
end
section
variable {X : Cx} {T : Tbl} {c : Nat → List Vx → Hs → VK2 → Prop} {cx : Cls2} (hc : CalMono c)
include hc
theorem st_iff {k a r : R} {ek : Expr} {ea er : List Stmt} {pos : Pos} (hk : PT X ek (liftT X.K cx (wpE T c k))) (ha : PSs X ea (liftS X.K cx (wpS T c a))) (hr : PSs X er (liftS X.K cx (wpS T c r))) : PS X (.If ek ea er pos) (liftS X.K cx (wpS T c (.iff k a r))) :=
  psImp (ps_if hk ha hr) fun D σ H ⟨B, S, σ2, hr, rs, kb, w⟩ => stepT hc hr rs.rx w fun b S1 H1 hr1 k1 rs1 w => by
    cases b with
    | true => rw [if_pos rfl]; exact ⟨B, S1, σ2, hr1, rs.keep k1 hr, kb.keep k1, w.t rfl⟩
    | false => rw [if_neg (by decide)]; exact ⟨B, S1, σ2, hr1, rs.keep k1 hr, kb.keep k1, w.f rfl⟩
theorem st_whl {k a : R} {ek : Expr} {ea : List Stmt} {pos : Pos} (hp : PassesOwn (model X.prog X.w) X.A X.env X.xe) (hk : PT X ek (liftT X.K cx (wpE T c k))) (ha : PSs X ea (liftS X.K cx (wpS T c a))) : PS X (.While ek ea [] pos) (liftS X.K cx (wpS T c (.whl k a))) :=
  psImp (ps_while hp hk ha) fun D σ H ⟨B, S, σ2, hr, rs, kb, n, w⟩ => by
    refine ⟨fun m σ' H' => ∃ B2 S' σ2', B.Le B2 ∧ Rel X.K cx S' H' ∧ RelS B2 X.K S' H' σ2' σ' ∧ KeepB B2 S' H' ∧ whlN (fun σ' S' K => wpE T c k σ' S' (one1 (tstK K))) (fun k σ' S' => wpS T c a σ' S' k (rtS X.K cx B D.rt) (nxS X.K cx B D.nx) k) (nxS X.K cx B D.nx) m σ2' S',
      ⟨n, B, S, σ2, .refl, hr, rs, kb, w⟩, ?_⟩
    rintro m σ' H' ⟨B2, S', σ2', l, hr, rs, kb, w⟩
    cases m with
    | zero => exact w.elim
    | succ m =>
      refine stepT hc hr rs.rx w fun b S1 H1 hr1 k1 rs1 w => ?_
      cases b with
      | true =>
        rw [if_pos rfl]
        refine ⟨fun σ' H' => ∃ B2 S' σ2', B.Le B2 ∧ Rel X.K cx S' H' ∧ RelS B2 X.K S' H' σ2' σ' ∧ KeepB B2 S' H' ∧ whlN (fun σ' S' K => wpE T c k σ' S' (one1 (tstK K))) (fun k σ' S' => wpS T c a σ' S' k (rtS X.K cx B D.rt) (nxS X.K cx B D.nx) k) (nxS X.K cx B D.nx) m σ2' S', fun σ' H' z => ⟨m, Nat.lt_succ_self m, z⟩, B2, S1, σ2', hr1, rs.keep k1 hr, kb.keep k1, ?_⟩
        exact wpS_mono hc (fun σ3 S3 z B3 σ4 H4 l3 hr3 rs3 kb3 => ⟨B3, S3, σ3, l.trans l3, hr3, rs3, kb3, z⟩) (fun _ _ => rtS.le l) (fun _ _ => nxS.le l) (fun σ3 S3 z B3 σ4 H4 l3 hr3 rs3 kb3 => ⟨B3, S3, σ3, l.trans l3, hr3, rs3, kb3, z⟩) (w.t rfl)
      | false =>
        rw [if_neg (by decide)]
        exact w.f rfl B2 σ' H1 l hr1 (rs.keep k1 hr) (kb.keep k1)
theorem st_for {tg : Tg} {it a : R} {etg eit : Expr} {ea : List Stmt} {pos : Pos} (hp : PassesOwn (model X.prog X.w) X.A X.env X.xe) (hcalm : X.calm = true) (hi : PI X etg eit (liftI X.K cx it (wpI T c it))) (hg : PG X etg (tgG X.K tg)) (ha : PSs X ea (liftS X.K cx (wpS T c a)))
    (hs : ∀ x, foldedSetIterable eit X.env x = pure x) : PS X (.For etg eit ea [] pos) (liftS X.K cx (wpS T c (.for tg it a))) :=
  psImp (ps_for hp hcalm hi hg ha hs) fun D σ H ⟨B, S, σ2, hr, rs, kb, w⟩ => ⟨S, σ2, hr, rs.rx, wpI_mono hc w fun J S1 w JJ H1 hr1 k1 lt => by
    have rs1 := rs.keep k1 hr
    have kb1 := kb.keep k1
    have l1 := loop_le it kb1 rs1
    have lt : ∀ S' H' σ', Rel X.K cx S' H' → KeepB (loopB B S1 H1 (dem it σ2) σ) S' H' → J.ok σ' S' → ItG X.K cx JJ J.items S' H' := fun S' H' σ' hr' k' o =>
      lt (loopB B S1 H1 (dem it σ2) σ).pd (fun b z1 z2 p => ⟨z1, z2, fun ⟨i, x, e, ow, e'⟩ => dem_src it σ2 rs1.dist (p ⟨i, x, dem_own e ow, ow, e'⟩) ⟨i, x, e, ow, e'⟩⟩) S' H' σ' hr' (fun b z => ⟨(k'.st b z).1, (k'.st b z).2.1⟩) o
    refine ⟨fun i m σ' H' => ∃ B2 S' σ2', (loopB B S1 H1 (dem it σ2) σ).Le B2 ∧ Rel X.K cx S' H' ∧ RelS B2 X.K S' H' σ2' σ' ∧ KeepB B2 S' H' ∧ m = J.items.length - i ∧ i ≤ J.items.length ∧
      forL tg J.ok (fun k σ' S' => wpS T c a σ' S' k (rtS X.K cx B D.rt) (nxS X.K cx B D.nx) k) (nxS X.K cx B D.nx) (J.items.drop i) σ2' S',
      ⟨J.items.length, _, S1, dem it σ2, .refl, hr1, loop_rs it rs1, loop_kb it kb1, rfl, Nat.zero_le _, w⟩, ?_⟩
    rintro i m σ' H' ⟨B2, S', σ2', l2, hr', rs', kb', rfl, hle, w⟩
    have l := l1.trans l2
    by_cases hlt : i < J.items.length
    · right
      rw [List.drop_eq_getElem_cons hlt] at w
      obtain ⟨ok, w⟩ := w
      obtain ⟨hgo, hy⟩ := (lt S' H' σ2' hr' (kb'.le l2) ok i).1 _ (List.getElem?_eq_getElem hlt)
      refine ⟨hgo, fun σ' H' => ∃ B2 S' σ2', (loopB B S1 H1 (dem it σ2) σ).Le B2 ∧ Rel X.K cx S' H' ∧ RelS B2 X.K S' H' σ2' σ' ∧ KeepB B2 S' H' ∧
        forL tg J.ok (fun k σ' S' => wpS T c a σ' S' k (rtS X.K cx B D.rt) (nxS X.K cx B D.nx) k) (nxS X.K cx B D.nx) (J.items.drop (i + 1)) σ2' S', fun σ' H' ⟨B2, S', σ2', h1, h2, h3, h4, h5⟩ => ⟨J.items.length - (i + 1), by omega, B2, S', σ2', h1, h2, h3, h4, rfl, hlt, h5⟩, fun x H5 y => ?_⟩
      obtain ⟨hr5, k5, rx⟩ := hy x H5 y
      refine bindT_ok (fun _ σa σb => RelS B2 X.K S' H5 σa σb) (fun i is x v σa σb rv p => p.setD rv) rx (rs'.keep k5 hr') w fun σa σb rsa w => ?_
      exact ⟨B2, S', σa, hr5, rsa, kb'.keep k5, wpS_mono hc (fun σ3 S3 z B3 σ4 H4 l3 hr3 rs3 kb3 => ⟨B3, S3, σ3, l2.trans l3, hr3, rs3, kb3, z⟩) (fun _ _ => rtS.le l) (fun _ _ => nxS.le l) (fun σ3 S3 z B3 σ4 H4 l3 hr3 rs3 kb3 => ⟨B3, S3, σ3, l2.trans l3, hr3, rs3, kb3, z⟩) w⟩
    · have e : i = J.items.length := by omega
      subst e
      rw [List.drop_length] at w
      exact .inl ⟨(lt S' H' σ2' hr' (kb'.le l2) w.1 _).2 rfl, w.2 B2 σ' H' l hr' rs' kb'⟩⟩
theorem st_ret {e : R} {ee : Expr} {pos : Pos} (he : PE X ee (liftE X.K cx (wpE T c e))) : PS X (.Return (some ee) pos) (liftS X.K cx (wpS T c (.ret e))) :=
  psImp (ps_ret he) fun D σ H ⟨B, S, σ2, hr, rs, kb, w⟩ => stepSE hc hr rs kb w fun x S1 v H1 hr1 k1 rs1 kb1 r1 w => by
    obtain ⟨hl, w⟩ := stor_of w
    exact w B v H1 .refl hr1 kb1 r1.1 fun o => let ⟨a, e, n⟩ := r1.2 o; ⟨a, e, kb.hn a n⟩
theorem st_retn {pos : Pos} : PS X (.Return none pos) (liftS X.K cx (wpS T c .retn)) := psImp ps_retN fun D σ H ⟨B, S, σ2, hr, rs, kb, w⟩ => w B _ H .refl hr kb rfl fun e => by cases e
theorem st_retv {i : Nat} {x : Str} {pos p : Pos} (hN : X.N[i]? = some x) (hv : Vis X.env.scope x) (h1 : (x == ("__debug__" : Str)) = false) (h2 : (x == ("__classdict__" : Str)) = false) : PS X (.Return (some (.Name x p)) pos) (liftS X.K cx (wpS T c (.retv i))) :=
  psImp (ps_ret (pe_var hN hv h1 h2)) fun D σ H ⟨B, S, σ2, hr, rs, kb, x, e, w⟩ => by
    obtain ⟨v, e', r⟩ := rs.rx.2 i x e
    obtain ⟨hl, w⟩ := stor_of w
    refine ⟨v, e', w B v H .refl hr kb r fun o => ?_⟩
    cases x with
    | vl ds => obtain ⟨a, us, rfl, _⟩ := r; exact ⟨a, rfl, (rs.ow i _ a e rfl e').2.1⟩
    | vd ds => obtain ⟨a, us, rfl, _⟩ := r; exact ⟨a, rfl, (rs.ow i _ a e rfl e').2.1⟩
    | _ => cases o
end
end DL

/-! DL12b: dicts walked: locks, keys, items. -/
namespace DL
open PySem L2 PySem.Spec PyProof.Rows
section
variable {K : Frag} {cx : Cls2} {S : Hs} {H : Hp}
theorem lock_on {a : Addr} {kvs : List (D × D)} (hr : Rel K cx S H) (e : S a = some (.dic kvs)) : ∃ ks, H a = some (.dK ks) ∧ ∀ od, Rel K cx (su S a (.fdc kvs (.frz od (.dK ks)))) (upd H a (.frz od (.dK ks))) ∧ Keep S (su S a (.fdc kvs (.frz od (.dK ks)))) H (upd H a (.frz od (.dK ks))) := by
  obtain ⟨ks, h, r⟩ := hr a _ e
  refine ⟨ks, h, fun od => ?_⟩
  have t : TupS K H (upd H a (.frz od (.dK ks))) := tupS_upd fun o z => by rw [h] at z; cases z; rfl
  refine ⟨hr.upd1 t ⟨upd_same, od, ks, rfl, r.keep t⟩, fun b o z n => ?_, fun b z => ?_⟩
  · have ne : b ≠ a := fun q => by subst q; rw [e] at n; cases n
    rw [upd_ne ne, su_ne ne]
    exact ⟨z, n⟩
  · by_cases q : b = a
    · subst q; rw [upd_same] at z; cases z
    · rwa [upd_ne q] at z
theorem lock_off {a : Addr} {kvs : List (D × D)} {od : Obj} {ks : List (Key × V)} (hr : Rel K cx S H) (e : S a = some (.fdc kvs (.frz od (.dK ks)))) : H a = some (.frz od (.dK ks)) ∧ Rel K cx (su S a (.dic kvs)) (upd H a (.dK ks)) ∧ Keep S (su S a (.dic kvs)) H (upd H a (.dK ks)) := by
  obtain ⟨h, o, ks', e', r⟩ := hr a _ e
  cases e'
  have t : TupS K H (upd H a (.dK ks)) := tupS_upd fun o z => by rw [h] at z; cases z; rfl
  refine ⟨h, hr.upd1 t ⟨ks, upd_same, r.keep t⟩, fun b o z n => ?_, fun b z => ?_⟩
  · have ne : b ≠ a := fun q => by subst q; rw [e] at n; cases n
    rw [upd_ne ne, su_ne ne]
    exact ⟨z, n⟩
  · by_cases q : b = a
    · subst q; rw [upd_same] at z; cases z
    · rwa [upd_ne q] at z
end
section
variable {X : Cx} {T : Tbl} {c : Nat → List Vx → Hs → VK2 → Prop} {cx : Cls2} (hc : CalMono c)
include hc
theorem snd_lockE {e : R} {ee : Expr} (he : PE X ee (liftE X.K cx (wpE T c e))) : PE X ee (liftE X.K cx (wpE T c (.lockE e))) :=
  peImp (pe_lock he) fun σ H Q ⟨S, σ2, hr, rs, a, kvs, ea, w⟩ => by
    obtain ⟨ks, h, lk⟩ := lock_on hr ea
    refine ⟨a, .dK ks, h, by simp [Mut], fun od => ?_⟩
    obtain ⟨hr0, k0⟩ := lk od
    refine ⟨_, σ2, hr0, rs.keep k0 hr, wpE_mono hc (w _) fun xs S' ⟨e1, x, ex, q⟩ => ⟨x, ex, fun v H' hr' k' r' => ?_⟩⟩
    obtain ⟨h1, hr1, k1⟩ := lock_off hr' e1
    exact ⟨h1, q v _ hr1 ((k0.trans k').trans k1) ⟨r'.1.keep k1 hr', fun o => let ⟨b, e2, n⟩ := r'.2 o; ⟨b, e2, k0.up b n⟩⟩⟩
theorem st_lock {st : R} {es : Stmt} (h : PS X es (liftS X.K cx (wpS T c st))) : PS X es (liftS X.K cx (wpS T c (.lock st))) :=
  psImp (ps_lock h) fun D σ H ⟨B, S, σ2, hr, rs, kb, a, kvs, ea, w⟩ => by
    obtain ⟨ks, h, lk⟩ := lock_on hr ea
    refine ⟨a, .dK ks, h, by simp [Mut], fun od => ?_⟩
    obtain ⟨hr0, k0⟩ := lk od
    refine ⟨B, _, σ2, hr0, rs.keep k0 hr, kb.keep k0, wpS_mono hc (fun σ' S' ⟨e1, q⟩ B' σ H' l hr' rs' kb' => ?_) (fun x S' ⟨e1, q⟩ B' v H' l hr' kb' r' o => ?_) (fun σ' S' ⟨e1, q⟩ B' σ H' l hr' rs' kb' => ?_) (fun σ' S' ⟨e1, q⟩ B' σ H' l hr' rs' kb' => ?_) (w _)⟩
    · obtain ⟨h1, hr1, k1⟩ := lock_off hr' e1
      exact ⟨h1, q B' σ _ l hr1 (rs'.keep k1 hr') (kb'.keep k1)⟩
    · obtain ⟨h1, hr1, k1⟩ := lock_off hr' e1
      exact ⟨h1, q B' v _ l hr1 (kb'.keep k1) (r'.keep k1 hr') o⟩
    · obtain ⟨h1, hr1, k1⟩ := lock_off hr' e1
      exact ⟨h1, q B' σ _ l hr1 (rs'.keep k1 hr') (kb'.keep k1)⟩
    · obtain ⟨h1, hr1, k1⟩ := lock_off hr' e1
      exact ⟨h1, q B' σ _ l hr1 (rs'.keep k1 hr') (kb'.keep k1)⟩
omit hc in
theorem dicR_get {K : Frag} {H : Hp} : ∀ {kvs : List (D × D)} {ks : List (Key × V)} {i : Nat} {p : D × D}, DicR K H kvs ks → kvs[i]? = some p → ∃ k v, ks[i]? = some (k, v) ∧ KeyR p.1 k ∧ RepV K H p.2 v
  | _, _, i, p, .nil, e => by simp at e
  | q :: kvs, (k, v) :: ks, 0, p, .cons h t, e => by simp at e; subst e; exact ⟨k, v, rfl, h.1, h.2⟩
  | q :: kvs, b :: ks, i + 1, p, .cons h t, e => by
    obtain ⟨k, v, h1, h2⟩ := dicR_get (i := i) t (by simpa using e)
    exact ⟨k, v, by simpa using h1, h2⟩
omit hc in
theorem keyR_rep {K : Frag} {H : Hp} {d : D} {k : Key} (h : KeyR d k) : RepV K H d (kV k) := by
  cases d <;> first | (cases h; rfl) | exact h.elim
theorem walk_itk {a : R} {ea tg : Expr} (ha : PE X ea (liftE X.K cx (wpE T c a))) : PI X tg ea (liftI X.K cx (.itk a) (wpI T c (.itk a))) :=
  piImp hc (pi_keys ha) fun σ H R ⟨S, σ2, hr, rs, w⟩ => stepE hc hr rs w fun x S1 v H1 hr1 k1 rs1 r1 ⟨b, kvs, z, ex, eb, w⟩ => by
    subst ex
    cases r1.1
    obtain ⟨h, o, ks, rfl, rd⟩ := hr1 b _ eb
    refine ⟨b, o, rfl, .inl ⟨ks, h, w _ H1 hr1 k1 fun Pz hz S' H' σ' hr' k' ok i => ?_⟩⟩
    obtain ⟨h', o', ks', e', rd'⟩ := hr' b _ ok
    cases e'
    have hl : kvs.length = ks.length := DicR.length rd'
    refine ⟨fun d e => ?_, fun e => ⟨h', by rw [← hl]; simpa using Nat.le_of_eq e⟩⟩
    rw [List.getElem?_map] at e
    obtain ⟨p, e1, rfl⟩ := Option.map_eq_some_iff.mp e
    obtain ⟨k, v, h1, h2, h3⟩ := dicR_get rd' e1
    refine ⟨⟨h', (List.getElem?_eq_some_iff.mp h1).1⟩, fun x H2 y => ?_⟩
    obtain ⟨rfl, k', v', h4, rfl⟩ := y
    rw [h1] at h4; cases h4
    exact ⟨hr', .refl, keyR_rep h2⟩
theorem walk_itms {a : R} {ea : Expr} {elts : List Expr} {kk : Nat} {tpos apos cpos : Pos} (ha : PE X ea (liftE X.K cx (wpE T c a))) (hb : attributeBase ea "items" X.env (eval ea X.env) = eval ea X.env) (hl : (apos.endLine == cpos.line) = true) :
    PI X (.Tuple elts kk tpos) (.Call (.Attribute ea "items" apos) [] [] cpos) (liftI X.K cx (.itms a) (wpI T c (.itms a))) :=
  piImp hc (pi_items ha hb hl) fun σ H R ⟨S, σ2, hr, rs, w⟩ => stepE hc hr rs w fun x S1 v H1 hr1 k1 rs1 r1 ⟨b, kvs, z, ex, eb, w⟩ => by
    subst ex
    cases r1.1
    obtain ⟨h, o, ks, rfl, rd⟩ := hr1 b _ eb
    refine ⟨b, o, ks, rfl, h, w _ H1 hr1 k1 fun Pz hz S' H' σ' hr' k' ok i => ?_⟩
    obtain ⟨h', o', ks', e', rd'⟩ := hr' b _ ok
    cases e'
    have hl : kvs.length = ks.length := DicR.length rd'
    refine ⟨fun d e => ?_, fun e => ⟨h', by rw [← hl]; simpa using Nat.le_of_eq e⟩⟩
    rw [List.getElem?_map] at e
    obtain ⟨p, e1, rfl⟩ := Option.map_eq_some_iff.mp e
    obtain ⟨k, v, h1, h2, h3⟩ := dicR_get rd' e1
    refine ⟨⟨h', (List.getElem?_eq_some_iff.mp h1).1⟩, fun x H2 y => ?_⟩
    obtain ⟨T', k', v', h4, rfl, n, rfl⟩ := y
    rw [h1] at h4; cases h4
    exact pair_new hr' n (keyR_rep h2) h3
end
end DL

/-! DL12n: dicts of tuples: new, locked, walked; loans; slices by 1, -1. -/
namespace DL
open PySem L2 PySem.Spec PyProof.Rows
section
variable {K : Frag} {cx : Cls2} {S : Hs} {H : Hp}
theorem lockN_on {a : Addr} {kvs : List (D × D)} (hr : Rel K cx S H) (e : S a = some (.dn kvs)) : ∃ u xs, H a = some u ∧ Mut (some u) ∧ ∀ od, Rel K cx (su S a (.fdn kvs (.frz od u) xs)) (upd H a (.frz od u)) ∧ Keep S (su S a (.fdn kvs (.frz od u) xs)) H (upd H a (.frz od u)) := by
  obtain ⟨xs, h, r⟩ := hr a _ e
  refine ⟨_, xs, h, True.intro, fun od => ?_⟩
  have t : TupS K H (upd H a (.frz od (dnO cx.w a xs))) := tupS_upd fun o z => by rw [h] at z; cases z; rfl
  refine ⟨hr.upd1 t ⟨upd_same, od, rfl, r.keep t⟩, fun b o z n => ?_, fun b z => ?_⟩
  · have ne : b ≠ a := fun q => by subst q; rw [e] at n; cases n
    rw [upd_ne ne, su_ne ne]
    exact ⟨z, n⟩
  · by_cases q : b = a
    · subst q; rw [upd_same] at z; cases z
    · rwa [upd_ne q] at z
theorem lockN_off {a : Addr} {kvs : List (D × D)} {od : Obj} {u : HO} {xs : List NE} (hr : Rel K cx S H) (e : S a = some (.fdn kvs (.frz od u) xs)) : H a = some (.frz od u) ∧ Rel K cx (su S a (.dn kvs)) (upd H a u) ∧ Keep S (su S a (.dn kvs)) H (upd H a u) := by
  obtain ⟨h, o, e', r⟩ := hr a _ e
  cases e'
  have t : TupS K H (upd H a (dnO cx.w a xs)) := tupS_upd fun o z => by rw [h] at z; cases z; rfl
  refine ⟨h, hr.upd1 t ⟨xs, upd_same, r.keep t⟩, fun b o z n => ?_, fun b z => ?_⟩
  · have ne : b ≠ a := fun q => by subst q; rw [e] at n; cases n
    rw [upd_ne ne, su_ne ne]
    exact ⟨z, n⟩
  · by_cases q : b = a
    · subst q; rw [upd_same] at z; cases z
    · rwa [upd_ne q] at z
/-- a list is lent: it goes out of sight, and comes back -/
theorem lend_on {a : Addr} {ds : List D} (hr : Rel K cx S H) (e : S a = some (.lst ds)) : ∃ vs, H a = some (.lst vs) ∧ RepL K H ds vs ∧ Rel K cx (mn a S) H := by
  obtain ⟨vs, h, r⟩ := hr a _ e
  refine ⟨vs, h, r, fun b o q => ?_⟩
  by_cases z : b = a
  · subst z; rw [mn_same] at q; cases q
  · rw [mn_ne z] at q; exact hr b o q
end
section
variable {X : Cx} {T : Tbl} {c : Nat → List Vx → Hs → VK2 → Prop} {cx : Cls2} (hc : CalMono c)
include hc
theorem snd_lockEN {e : R} {ee : Expr} (he : PE X ee (liftE X.K cx (wpE T c e))) : PE X ee (liftE X.K cx (wpE T c (.lockEN e))) :=
  peImp (pe_lock he) fun σ H Q ⟨S, σ2, hr, rs, a, kvs, ea, w⟩ => by
    obtain ⟨u, ns, h, mu, lk⟩ := lockN_on hr ea
    refine ⟨a, u, h, mu, fun od => ?_⟩
    obtain ⟨hr0, k0⟩ := lk od
    refine ⟨_, σ2, hr0, rs.keep k0 hr, wpE_mono hc (w _ ns) fun xs S' ⟨e1, x, ex, q⟩ => ⟨x, ex, fun v H' hr' k' r' => ?_⟩⟩
    obtain ⟨h1, hr1, k1⟩ := lockN_off hr' e1
    exact ⟨h1, q v _ hr1 ((k0.trans k').trans k1) ⟨r'.1.keep k1 hr', fun o => let ⟨b, e2, n⟩ := r'.2 o; ⟨b, e2, k0.up b n⟩⟩⟩
theorem snd_lend {i : Nat} {e : R} {ee : Expr} (he : PE X ee (liftE X.K cx (wpE T c e))) : PE X ee (liftE X.K cx (wpE T c (.lend i e))) :=
  peImp he fun σ H Q ⟨S, σ2, hr, rs, a, ds, ei, ea, w⟩ => by
    obtain ⟨vs, h, r, hr0⟩ := lend_on hr ea
    obtain ⟨v, hv, rv⟩ := rs.2 i _ ei
    cases rv
    refine ⟨mn a S, σ2.set i (some (.bw ds)), hr0, ⟨by rw [List.length_set]; exact rs.1, fun j x ej => ?_⟩, wpE_mono hc w fun xs S' ⟨hn, x, ex, q⟩ => ⟨x, ex, fun v H' hr' k' r' => ?_⟩⟩
    · by_cases z : i = j
      · subst z
        have hi : i < σ2.length := (List.getElem?_eq_some_iff.mp ei).1
        rw [List.getElem?_set_self hi] at ej
        cases ej
        exact ⟨_, hv, a, vs, rfl, h, mn_same, r⟩
      · rw [List.getElem?_set_ne z] at ej
        obtain ⟨u, hu, ru⟩ := rs.2 j x ej
        refine ⟨u, hu, ?_⟩
        have mz : ∀ b, S b = none → mn a S b = none := fun b n => by
          by_cases z : b = a
          · subst z; exact mn_same
          · rw [mn_ne z]; exact n
        cases x with
        | d y => exact ru
        | vl es => obtain ⟨b, us, e, h1, n, q⟩ := ru; exact ⟨b, us, e, h1, mz b n, q⟩
        | bw es => obtain ⟨b, us, e, h1, n, q⟩ := ru; exact ⟨b, us, e, h1, mz b n, q⟩
        | vd es => obtain ⟨b, us, e, h1, n, q⟩ := ru; exact ⟨b, us, e, h1, mz b n, q⟩
        | bd es => obtain ⟨b, us, e, h1, n, q⟩ := ru; exact ⟨b, us, e, h1, mz b n, q⟩
        | fz es =>
          obtain ⟨b, us, e, h1, q⟩ := ru
          exact ⟨b, us, e, h1.imp (fun ⟨o, h2, n⟩ => ⟨o, h2, mz b n⟩) id, q⟩
        | st es => exact ru.elim
    · subst ex
      obtain ⟨h', n'⟩ := k'.kp a _ h mn_same
      have t := k'.tups hr0
      have hr1 : Rel X.K cx (su S' a (.lst ds)) H' := hr'.box ⟨vs, h', r.keep t⟩
      have k1 : Keep S (su S' a (.lst ds)) H H' := ⟨fun b o e n => by
        have ne : b ≠ a := fun z => by subst z; rw [ea] at n; cases n
        obtain ⟨h1, h2⟩ := k'.kp b o e (by rw [mn_ne ne]; exact n)
        exact ⟨h1, by rw [su_ne ne]; exact h2⟩, k'.up⟩
      have hx : noLoan x = true := by simpa using hn
      refine q v H' hr1 k1 ⟨?_, r'.2⟩
      have nb : own x = true → ∀ b, v = .ref b → b ≠ a := fun o b eb z => by
        obtain ⟨b', e1, e2⟩ := r'.2 o
        subst z
        rw [eb] at e1; cases e1
        rw [h] at e2; cases e2
      cases x with
      | d y => exact r'.1
      | vl es => obtain ⟨b, us, e, h1, n, q⟩ := r'.1; exact ⟨b, us, e, h1, by rw [su_ne (nb rfl b e)]; exact n, q⟩
      | vd es => obtain ⟨b, us, e, h1, n, q⟩ := r'.1; exact ⟨b, us, e, h1, by rw [su_ne (nb rfl b e)]; exact n, q⟩
      | _ => cases hx
theorem snd_dctn (hw : cx.w = X.w) {pos : Pos} : PE X (.Dict [] [] pos) (liftE X.K cx (wpE T c .dctn)) :=
  peImp pe_dn fun σ H Q ⟨S, σ2, hr, rs, w⟩ => fun p n m => by
    obtain ⟨x, e, q⟩ := w p (hr.free n)
    cases e
    have t : TupS X.K H (upd H p (dnO X.w p [])) := tupS_new n
    refine q _ _ (hr.upd1 t ⟨[], by rw [hw]; exact upd_same, .nil, List.nodup_nil, Nat.zero_le _, m⟩) ⟨fun b o e z => ⟨by rw [upd_ne (ne_of_none e n)]; exact e, ?_⟩, (Keep.new (S := S) n).up⟩ ⟨rfl, fun e => by cases e⟩
    rw [su_ne (ne_of_none e n)]; exact z
/-! ### the keys walked -/
omit hc in
theorem Inv.frzN {pins : List (Addr × Obj)} {σ : L2.St} {H : Hp} {s : Shared} {d : Addr} {o : Obj} {w : World} {xs : List NE} (I : Inv X pins σ H s) (h : H d = some (.frz o (dnO w d xs))) :
    s.heap.get? d = some o ∧ o.ExactDict ∧ ∃ (es : Array DictEntry) (ep : Nat), o.data = .dict es ep ∧ es.size = xs.length ∧ ∀ (i : Nat) (y : NE), xs[i]? = some y → ∃ en : DictEntry, es[i]? = some en ∧ en.key = .ref y.2.1 := by
  obtain ⟨hd, ⟨o', es, ep, h1, h2, h3, h4⟩, _⟩ := I.hok d _ h
  rw [hd] at h1
  cases h1
  refine ⟨hd, h2, es, ep, h3, by rw [← Array.length_toList, h4, List.length_map], fun i y e => ⟨entN w y, ?_, rfl⟩⟩
  rw [← Array.getElem?_toList, h4, List.getElem?_map, e]; rfl
def Itkn (w : World) (d : Addr) (o : Obj) (xs : List NE) : It :=
  ⟨fun i H => H d = some (.frz o (dnO w d xs)) ∧ i < xs.length, fun i H x H' => H' = H ∧ ∃ y : NE, xs[i]? = some y ∧ x = .ref y.2.1, fun i H => H d = some (.frz o (dnO w d xs)) ∧ xs.length ≤ i⟩
omit hc in
theorem turn_keysN {P : Program} {w : World} {K : PySem.W.Frag} {tg : Expr} {w' : World} {d : Addr} {o : Obj} {es : Array DictEntry} {ep : Nat} {xs : List NE} (it : Addr) (hod : o.data = .dict es ep) : Turn P w K tg (Itkn w' d o xs) [it] it (fun i h => h.IsKeyIter it d i xs.length ep) where
  mem := by simp
  obj := fun i h st b hb => by
    have e : b = it := by simpa using hb
    subst e
    obtain ⟨oi, e, c, dd⟩ := st
    exact ⟨oi, e, fun v z => by rw [dd] at z; cases z⟩
  keep := fun i h h' st k => st.at fun oi e => k it (by simp) oi e
  item := by
    intro X hP hw hK hc i pins s σ H E I hf st hg
    subst hP hw hK
    obtain ⟨hd, hi⟩ := hg
    obtain ⟨f0, f1, f2, f3, f4, f5⟩ := hf it (by simp)
    obtain ⟨hgd, hx, es', ep', hdt, hsz, ent⟩ := Inv.frzN I hd
    obtain ⟨rfl, rfl⟩ := dict_ep hod hdt
    obtain ⟨y, hy⟩ : ∃ y, xs[i]? = some y := ⟨xs[i], List.getElem?_eq_getElem hi⟩
    obtain ⟨en, hen, hkey⟩ := ent i y hy
    refine next_key_item st hgd hdt hsz hen fun h' st' sb => ?_
    have I1 : Inv X pins σ H { s with heap := h' } := I.turned (t' := s.toks) (fun b ob hb e => (sb.2 b hb).trans e) f0 f1 f3 f4 f5
    obtain ⟨oi, e, c, dd⟩ := id st'
    exact ⟨en.key, rfl, go_of (s := { s with heap := h' }) e c dd (by decide) ⟨.ref y.2.1, H, I1, hkey, ⟨rfl, y, hy, rfl⟩, st', fun b hb => (hf b hb).1⟩⟩
  done := by
    intro X hP hw hK hc i pins s σ H E I hf st hg
    subst hP hw hK
    obtain ⟨hd, hi⟩ := hg
    obtain ⟨f0, f1, f2, f3, f4, f5⟩ := hf it (by simp)
    obtain ⟨hgd, hx, es', ep', hdt, hsz, ent⟩ := Inv.frzN I hd
    obtain ⟨rfl, rfl⟩ := dict_ep hod hdt
    exact next_key_end (I.ok.hd hc) st hgd hdt hsz hi fun h' eb => ⟨rfl, I.turned (t' := s.toks) (fun b ob hb e => eb b ob hb e) f0 f1 f3 f4 f5⟩
  self := fun A i s Q E st h => by
    refine wpAny_pyIter_slot st.typeIs PySem.F.slot_dict_keyiterator_iter (wpAny_call_entry PySem.F.slot_dict_keyiterator_iter st.typeIs PySem.F.entry_dict_keyiterator_iter ?_ (PySem.F.args_dict_keyiterator_iter_1 _))
    show wpAny _ _ (ret (.ref it)) _ _ s
    exact wpAny_pure ⟨_, rfl, "dict_keyiterator", _, st.typeIs, PySem.F.slot_dict_keyiterator_next.lookup, h⟩
def iKeysN (td : TE) : TI := fun σ H R => td σ H fun x H1 => ∃ d o w xs, x = .ref d ∧ (d == sysModules) = false ∧ H1 d = some (.frz o (dnO w d xs)) ∧ R (Itkn w d o xs) H1
omit hc in
theorem pi_keysN {tg e : Expr} {td : TE} (he : PE X e td) : PI X tg e (iKeysN td) := by
  refine ⟨fun pins s σ H R I h => ?_⟩
  refine thn (he.run pins s σ H _ I h) fun u s1 ⟨x, H1, I1, rx, d, o, w, xs, ex, hs, hd, q⟩ => ?_
  subst ex
  obtain rfl : u = Value.ref d := rx
  obtain ⟨hgd, hx, es, ep, hdt, hsz, ent⟩ := Inv.frzN I1 hd
  refine iter_keys hs hgd hx hdt (pi_one (tk := s1.toks) I1 _ (turn_keysN _ hdt) ⟨_, Heap.get?_push_size _ rfl, rfl, ?_⟩ q)
  rw [hsz] <;> rfl
omit hc in
theorem dnR_get {K : Frag} {H : Hp} : ∀ {kvs : List (D × D)} {xs : List NE} {i : Nat} {p : D × D}, DnR K H kvs xs → kvs[i]? = some p → ∃ y, xs[i]? = some y ∧ DnE K H p y
  | _, _, i, p, .nil, e => by simp at e
  | q :: kvs, y :: ys, 0, p, .cons h t, e => by simp at e; subst e; exact ⟨y, rfl, h⟩
  | q :: kvs, b :: ys, i + 1, p, .cons h t, e => by
    obtain ⟨y, h1, h2⟩ := dnR_get (i := i) t (by simpa using e)
    exact ⟨y, by simpa using h1, h2⟩
theorem walk_itkn {a : R} {ea tg : Expr} (ha : PE X ea (liftE X.K cx (wpE T c a))) : PI X tg ea (liftI X.K cx (.itkn a) (wpI T c (.itkn a))) :=
  piImp hc (pi_keysN ha) fun σ H R ⟨S, σ2, hr, rs, w⟩ => stepE hc hr rs w fun x S1 v H1 hr1 k1 rs1 r1 ⟨b, kvs, z, xs, ex, eb, w⟩ => by
    subst ex
    cases r1.1
    obtain ⟨h, o, rfl, rd⟩ := hr1 b _ eb
    refine ⟨b, o, cx.w, xs, rfl, rd.m, h, w _ H1 hr1 k1 fun Pz hz S' H' σ' hr' k' ok i => ?_⟩
    obtain ⟨h', o', _, rd'⟩ := hr' b _ ok
    have hl : kvs.length = xs.length := rd'.r.length
    refine ⟨fun d e => ?_, fun e => ⟨h', by rw [← hl]; simpa using Nat.le_of_eq e⟩⟩
    rw [List.getElem?_map] at e
    obtain ⟨p, e1, rfl⟩ := Option.map_eq_some_iff.mp e
    obtain ⟨y, h1, h2⟩ := dnR_get rd'.r e1
    refine ⟨⟨h', (List.getElem?_eq_some_iff.mp h1).1⟩, fun x H2 y' => ?_⟩
    obtain ⟨rfl, y2, h4, rfl⟩ := y'
    rw [h1] at h4; cases h4
    exact ⟨hr', .refl, h2.2.2.1⟩
/-! ### slices by 1, -1 -/
omit hc in
theorem slice_one (items : Array Value) : slicePick items none none (some 1) = slicePick items none none none := rfl
def tStpL (K : PySem.W.Frag) (te tk : TE) : TE := fun σ H Q => te σ H fun x H1 => tPart tk σ H1 fun o H2 => ∃ a xs z, x = .ref a ∧ SqL K H2 a xs ∧ o = some z ∧ (z = 1 ∨ z = -1) ∧ ∀ p, H2 p = none → Q (.ref p) (upd H2 p (.lst (if z = 1 then xs else xs.reverse)))
omit hc in
theorem pe_stpL {e ek : Expr} {te tk : TE} {p3 pos : Pos} (he : PE X e te) (hk : PE X ek tk) : PE X (.Subscript e (.Slice none none (some ek) p3) pos) (tStpL X.K te tk) := by
  refine ⟨fun pins s σ H Q I h => ?_⟩
  refine Subscript_ (thn (he.run pins s σ H _ I h) fun v s1 ⟨x, H1, I1, r1, q1⟩ => ?_)
  refine wpAny_Slice (thn (po_none.run pins s1 σ H1 (fun o H2 => o = none ∧ H2 = H1) I1 ⟨rfl, rfl⟩) fun vl s2 ⟨l, H2, I2, pl, el, e2⟩ => ?_)
  subst el e2
  refine thn (po_none.run pins s2 σ H2 (fun o H3 => o = none ∧ H3 = H2) I2 ⟨rfl, rfl⟩) fun vu s3 ⟨u, H3, I3, pu, eu, e3⟩ => ?_
  subst eu e3
  refine thn ((po_some hk).run pins s3 σ H3 _ I3 q1) fun vs s4 ⟨o, H4, I4, ps, a, xs, z, ex, hx, eo, hz1, q⟩ => ?_
  subst ex eo
  cases r1
  have I5 : Inv X pins σ H4 { s4 with heap := s4.heap.push { cls := .type "slice", data := .fields #[vl, vu, vs] } } := I4.kept (t' := s4.toks) fun b ob q => Heap.get?_push_of_some _ q
  obtain ⟨its, r, ht, hz⟩ := I5.list hx
  have hlen := r.length
  show wpAny (model X.prog X.w) X.A (subscriptTail e (.Slice none none (some ek) p3) (.ref a) (.ref s4.heap.objs.size)) (EP X pins σ Q) X.xe { s4 with heap := s4.heap.push { cls := .type "slice", data := .fields #[vl, vu, vs] } }
  refine tail_any (ops := [.ref a, .ref s4.heap.objs.size]) ht.isList.typeIs (PySem.slot_list_getitem.lookup) ?_ (by with_unfolding_all rfl)
  refine wpAny_getItem_list_slice ht.isList (Heap.IsSliceOf.new _ vl vu vs) pl pu ps (by rcases hz1 with rfl | rfl <;> decide) ?_ (by rw [List.size_toArray]; omega)
  rcases hz1 with rfl | rfl
  · rw [slice_one, slicePick_cut]
    have e : (its.drop (HT.sIx its.length 0 none)).take (HT.sIx its.length its.length none - HT.sIx its.length 0 none) = its := by rw [HT.sIx_none, HT.sIx_none]; simp
    rw [e]
    exact ⟨.ref _, _, I5.laid (t' := s4.toks) (o := .lst xs) (fun b ob q => Heap.get?_push_of_some _ q) (Nat.le_refl _) ⟨hz, _, 0, r, Heap.get?_push_size _ rfl⟩, rfl, q _ (I5.hok.fresh (Nat.le_refl _))⟩
  · rw [PySem.W.krv_pick]
    refine ⟨.ref _, _, I5.laid (t' := s4.toks) (o := .lst xs.reverse) (fun b ob q => Heap.get?_push_of_some _ q) (Nat.le_refl _) ?_, rfl, q _ (I5.hok.fresh (Nat.le_refl _))⟩
    exact ⟨by rw [List.length_reverse]; exact hz, _, 0, r.reverse, Heap.get?_push_size _ rfl⟩
omit hc in
theorem RepL.rev {K : Frag} {H : Hp} : ∀ {ds : List D} {vs : List V}, RepL K H ds vs → RepL K H ds.reverse vs.reverse
  | [], _, e => by cases e; exact .nil
  | d :: ds, _, ⟨v, vr, e, r, rr⟩ => by
    subst e
    rw [List.reverse_cons, List.reverse_cons]
    exact RepL.append (RepL.rev rr) (.cons r .nil)
theorem snd_stp {a k : R} {ea ek : Expr} {p3 pos : Pos} (ha : PE X ea (liftE X.K cx (wpE T c a))) (hk : PE X ek (liftE X.K cx (wpE T c k))) : PE X (.Subscript ea (.Slice none none (some ek) p3) pos) (liftE X.K cx (wpE T c (.stp a k))) :=
  peImp (pe_stpL ha hk) fun σ H Q ⟨S, σ2, hr, rs, w⟩ => stepE hc hr rs w fun x S1 v H1 hr1 k1 rs1 r1 w => stepE hc hr1 rs1 w fun y S2 u H2 hr2 k2 rs2 r2 ⟨z, ez, hz, w⟩ => by
    subst ez
    cases r2.1
    obtain ⟨cn, ⟨ds, rfl, x', ex, q⟩, hcn⟩ := view_of hr2 (r1.1.keep k2 hr1) w
    obtain ⟨a, vs, rfl, ha, rv⟩ := hcn
    cases ex
    refine ⟨z, rfl, a, vs, z, rfl, SqL.of ha, rfl, hz, fun p n => fin_vl (KVof.of (k1.trans k2) q) hr2 ?_ p n⟩
    split
    · exact rv
    · exact rv.rev
end
end DL

/-! DL12k: enumerate over the keys of a locked dict. -/
namespace DL
open PySem L2 PySem.Spec PyProof.Rows
section
variable {prog : Program} {w : World} {K : Type} [DecidableEq K] {knd : KeyKind prog w K} {A : Around}
theorem keyOf_end {s : Shared} {E : Value → Shared → Prop} {it d : Addr} {i n ep : Nat} {od : Obj} {es : Array DictEntry} {Q : Value → Shared → Prop} (hh : A.handled = none) (hit : s.heap.IsKeyIter it d i n ep) (hod : s.heap.get? d = some od) (hdd : od.data = .dict es ep) (hsz : es.size = n) (hge : n ≤ i)
    (hE : ∀ h' e, Heap.ExtBut it s.heap h' → (∃ o, h'.get? e = some o ∧ o.cls = .type "StopIteration") → E (.ref e) { s with heap := h' }) : wpAny (model prog w) A (Builtin.SmallTypes.nextOf (.ref it)) Q E s := by
  obtain ⟨o, ho, hc, hd⟩ := id hit; unfold Builtin.SmallTypes.nextOf
  refine wpAny_bind (wpAny_callSpecial?_slot (name := Str.ofString "__next__") hit.typeIs F.slot_dict_keyiterator_next (wpAny_call_entry F.slot_dict_keyiterator_next hit.typeIs F.entry_dict_keyiterator_next ?_ (F.args_dict_keyiterator_next_1 _)))
  refine wpAny_bind (wpAny_pure ?_); refine wpAny_bind ?_; refine wpAny_bind ?_
  refine wpAny_bind (wpAny_typeNameOfWhole_keyiter hit.typeIs (wpAny_pure ?_)); refine wpAny_bind (wpAny_fieldsOf ho hd ?_)
  simp only [show Builtin.Dict_items.ownsTuple "dict_keyiterator" = false by decide, Bool.false_eq_true, if_false]
  show wpAny _ _ (if (Value.ref d == Value.none) = true then _ else _) _ _ s; rw [if_neg (show ¬ ((Value.ref d == Value.none) = true) from Bool.false_ne_true)]
  refine wpAny_bind (wpAny_pure ?_); refine wpAny_bind (wpAny_dictEntries hod hdd ?_); rw [if_neg (by rw [hsz]; simp)]
  refine wpAny_bind (wpAny_pure ?_); refine wpAny_bind (wpAny_dictEpoch hod hdd ?_); rw [if_neg (by simp)]; refine wpAny_pure ?_
  simp only [show ¬ ((i : Int) < 0) from by omega, if_false, Int.toNat_natCast, Array.getElem?_eq_none (show es.size ≤ i by rw [hsz]; exact hge)]
  refine wpAny_bind ?_; refine wpAny_bind (wpAny_typeNameOfWhole_keyiter hit.typeIs (wpAny_pure ?_))
  show wpAny _ _ (setField (.ref it) 0 .none >>= _) _ _ s; refine wpAny_bind (wpAny_setField ho hd (by simp) ?_)
  show wpAny _ _ (newExc (.type "StopIteration") [] >>= _) _ _ _; refine wpAny_bind ?_; simp only [newExc, newTuple]
  refine wpAny_bind (wpAny_newObj_type ?_ (by size_fits)); refine wpAny_bind (m := firstArgMember _ _) (wpAny_of_eq (a := Value.none) (by first | rfl | (simp only [firstArgMember]; rfl)) ?_)
  refine wpAny_newObj_type ?_ (by size_fits); simp only [raiseNew]; refine wpAny_bind (wpAny_handled ?_)
  rw [show A.in1.handled = none from hh]; refine wpAny_bind (wpAny_pure (wpAny_throw ?_))
  exact hE _ _ (((Heap.SameBut.update ..).extBut.push _).push _) ⟨_, Heap.get?_push_size _ rfl, rfl⟩
theorem drawsK (hh : A.handled = none) (it d : Addr) (hne : d ≠ it) (kvs : List (K × Value)) (ep : Nat) :
    Draws prog w A it [it, d] kvs.length (fun i v => ∃ k x, kvs[i]? = some (k, x) ∧ knd.is k v = true) (fun i h => h.IsKeyIter it d i kvs.length ep ∧ h.DictAt knd d kvs ep) where
  live := fun _ _ st => let ⟨o, ho, _⟩ := st.1; ⟨o, ho⟩
  frame := fun _ _ _ st hk => ⟨st.1.at fun o e => hk it (by simp) o e, st.2.at' fun o e => hk d (by simp) o e⟩
  item := fun i s Q E hi st hQ => by
    obtain ⟨⟨k, x⟩, hkv⟩ : ∃ p, kvs[i]? = some p := ⟨kvs[i], List.getElem?_eq_getElem hi⟩
    unfold Builtin.SmallTypes.nextOf
    refine wpAny_bind (PySem.W.kdk_special st.1 st.2 hkv fun key h' hk st' sb => ?_)
    exact wpAny_pure (hQ key h' s.toks ⟨k, x, hkv, hk⟩ ⟨st', st.2.at' fun o e => (sb.2 d hne).trans e⟩ sb)
  done := fun s Q E st hE => by
    obtain ⟨od, es, hod, hcd, hdd, hk, hp, hn⟩ := st.2
    refine keyOf_end hh st.1 hod hdd ?_ (Nat.le_refl _) hE
    have := hp.length
    simpa using this
end
theorem beginsK {d : Addr} {od : Obj} {es : Array DictEntry} {ep : Nat} (hd : (d == sysModules) = false) : Begins (.ref d) { cls := .type "dict_keyiterator", data := .fields #[.ref d, .int 0 0, .int es.size 0, .int ep 0] } fun h => h.get? d = some od ∧ od.ExactDict ∧ od.data = .dict es ep where
  iter := fun prog' w' A E s Q hm h => iter_keys hd hm.1 hm.2.1 hm.2.2 h
  keeps := fun h h' x hk => ⟨hk d _ x.1, x.2⟩
  free := rfl
/-- enumerate over the keys of the locked dict at d: each in a new pair -/
def IteK (d : Addr) (o : Obj) (kvs : List (Key × V)) : It :=
  ⟨fun i H => H d = some (.frz o (.dK kvs)) ∧ i < kvs.length, fun i H x H' => ∃ T k v, kvs[i]? = some (k, v) ∧ x = .ref T ∧ H T = none ∧ H' = upd H T (.tup [.int (i : Nat), kV k]), fun i H => H d = some (.frz o (.dK kvs)) ∧ kvs.length = i⟩
theorem turn_enumK {P : Program} {w : World} {K : PySem.W.Frag} {elts : List Expr} {kk : Nat} {tpos : Pos} {d : Addr} {o : Obj} {es : Array DictEntry} {ep : Nat} {kvs : List (Key × V)} (e it : Addr) (hod : o.data = .dict es ep) :
    Turn P w K (.Tuple elts kk tpos) (IteK d o kvs) [e, it] e (fun i h => (∃ old, IsEnum h e it ((i : Nat) : Int) old) ∧ h.IsKeyIter it d i kvs.length ep ∧ e ≠ it) where
  mem := by simp
  obj := fun i h st b hb => by
    obtain ⟨⟨old, he⟩, ⟨oi, ho, hc, hd⟩, _⟩ := st
    rcases (by simpa using hb : b = e ∨ b = it) with z | z
    · rw [z]; exact ⟨_, he, fun v q => nomatch q⟩
    · rw [z]; exact ⟨oi, ho, fun v q => by rw [hd] at q; cases q⟩
  keep := fun i h h' st k => let ⟨⟨old, he⟩, hi, hne⟩ := st; ⟨⟨old, k e (by simp) _ he⟩, hi.at fun o q => k it (by simp) o q, hne⟩
  item := by
    intro X hP hw hK hc i pins s σ H E I hf st hg
    subst hP hw hK
    obtain ⟨⟨old, he⟩, hit, hne⟩ := st
    obtain ⟨hd, hi⟩ := hg
    obtain ⟨hs, hgd, hx, es', ep', vs, hdt, hsz, kv, hm⟩ := I.frzK hd
    obtain ⟨rfl, rfl⟩ := dict_ep hod hdt
    have hl : kvs.length = vs.length := Paired.length kv
    have hel : e < s.heap.objs.size := Heap.lt_size he
    have hil : it < s.heap.objs.size := by obtain ⟨_, q, _⟩ := hit; exact Heap.lt_size q
    have hde : d ≠ it := fun z => by
      subst z; obtain ⟨oi, q, c, _⟩ := hit; rw [hgd] at q; cases q; exact absurd (hx.1.symm.trans c) (by decide +kernel)
    have hdx : d ≠ e := fun z => by
      subst z; have he2 : s.heap.get? d = some _ := he; rw [hgd] at he2; cases he2; exact absurd (show Value.type "enumerate" = Value.type "dict" from hx.1) (by decide +kernel)
    rw [hl] at hit
    refine wpAny_pyNext_enum_itemD (drawsK (prog := X.prog) (w := X.w) (A := X.A.in1) (show X.A.in1.handled = none from I.ok.hd hc) it d hde vs ep') he ⟨hit, hm⟩ (by omega) hne (by simp [hne, Ne.symm hdx]) fun u h' tk hP ho hst' hT hsz hk => ?_
    obtain ⟨k, x, hkv, hkey⟩ := hP
    obtain ⟨⟨k', v⟩, hkv'⟩ : ∃ p, kvs[i]? = some p := ⟨kvs[i], List.getElem?_eq_getElem hi⟩
    obtain ⟨u', hu, ru⟩ := kv_get kv hkv'
    have ek : k' = k := by rw [hu] at hkv; cases hkv; rfl
    subst ek
    have rk : RelV (kV k') u := relV_key (show keyIs k' u = true from hkey)
    refine ⟨_, rfl, wpAny_letOwnedTupleGo_enum (s := { s with heap := h', toks := tk + 1 }) ho fun h'' he' sb => ?_⟩
    have hT2 := (sb.2 _ (Nat.ne_of_gt hel)).trans hT
    have new : ObjOk X.prog X.w (upd H s.heap.objs.size (.tup [.int (i : Nat), kV k'])) h'' s.heap.objs.size (.tup [.int (i : Nat), kV k']) := ⟨show 2 ≤ sizeLine by decide, [.int i tk, u], .cons ⟨_, rfl⟩ (.cons rk .nil), ⟨_, hT2, rfl, _, rfl⟩⟩
    have I1 := I.turnedNew (t' := tk + 1) (ch := [e, it]) (fun b ob hb q => (sb.2 b (fun z => hb (by simp [z]))).trans (hk b ob (fun z => hb (by simp [z])) (fun z => hb (by simp [z])) q)) hf (Nat.le_refl _) new
    refine ⟨.ref s.heap.objs.size, _, I1, rfl, ⟨_, k', v, hkv', rfl, I.hok.fresh (Nat.le_refl _), rfl⟩, ⟨⟨u, ?_⟩, ?_, hne⟩, fun b hb => ?_⟩
    · rw [show ((i + 1 : Nat) : Int) = (i : Int) + 1 by omega]; exact he'
    · rw [hl]; exact hst'.1.at fun o q => (sb.2 it (Ne.symm hne)).trans q
    · have hb' : b < s.heap.objs.size := by
        rcases (by simpa using hb : b = e ∨ b = it) with z | z
        · rw [z]; exact hel
        · rw [z]; exact hil
      rw [upd_ne (Nat.ne_of_lt hb')]; exact (hf b hb).1
  done := by
    intro X hP hw hK hc i pins s σ H E I hf st hg
    subst hP hw hK
    obtain ⟨⟨old, he⟩, hit, hne⟩ := st
    obtain ⟨hd, hi⟩ := hg
    obtain ⟨hs, hgd, hx, es', ep', vs, hdt, hsz, kv, hm⟩ := I.frzK hd
    obtain ⟨rfl, rfl⟩ := dict_ep hod hdt
    obtain ⟨f0, f1, f2, f3, f4, f5⟩ := hf it (by simp)
    have hl : kvs.length = vs.length := Paired.length kv
    have hde : d ≠ it := fun z => by
      subst z; obtain ⟨oi, q, c, _⟩ := hit; rw [hgd] at q; cases q; exact absurd (hx.1.symm.trans c) (by decide +kernel)
    rw [hl] at hit
    have hs2 : vs.length = i := by omega
    rw [← hs2] at hit he
    exact wpAny_pyNext_enum_endD (drawsK (prog := X.prog) (w := X.w) (A := X.A.in1) (show X.A.in1.handled = none from I.ok.hd hc) it d hde vs ep') he ⟨hit, hm⟩ fun h' eb => ⟨rfl, I.turned (t' := s.toks) (fun b o hb q => eb b o hb q) f0 f1 f3 f4 f5⟩
  self := fun A i s Q E st h => let ⟨⟨_, he⟩, _⟩ := st; wpAny_pyIter_enum he h
def iEnumK (ta : TA) : TI := fun σ H R => ta σ H fun vs H1 => ∃ d o kvs, vs = [.ref d] ∧ H1 d = some (.frz o (.dK kvs)) ∧ R (IteK d o kvs) H1
theorem pi_enumK {X : Cx} {e : Expr} {ta : TA} {p pos tpos : Pos} {elts : List Expr} {kk : Nat} (hg : Gl X "enumerate") (hm : X.mg "enumerate" = none) (ha : PA X [e] ta) (hs : starEach [e] X.env = [(false, eval e X.env)]) :
    PI X (.Tuple elts kk tpos) (.Call (.Name "enumerate" p) [e] [] pos) (iEnumK ta) := by
  refine ⟨fun pins s σ H R I h => Call_ (ld_blt I hg hm boot_enumerate (PyProof.Rows.callWith_type1 (thn (ha.run pos pins s σ H _ I h) fun us s1 ⟨vs, H1, I1, r1, q1⟩ => ?_) hs rfl))⟩
  obtain ⟨d, o, kvs, ex, hd, q⟩ := q1
  subst ex
  cases r1 with
  | cons r rr =>
    cases rr
    cases r
    have fp2 : ∀ b ∈ [s1.heap.objs.size + 1, s1.heap.objs.size], FpOk X pins H1 b := fun b hb => by
      have hle : s1.heap.objs.size ≤ b := by rcases (by simpa using hb : b = s1.heap.objs.size + 1 ∨ b = s1.heap.objs.size) with z | z <;> omega
      exact I1.fpOk hle (I1.hok.fresh hle)
    obtain ⟨hsm, hgd, hx, es, ep, vs, hdt, hsz, kv, hmm⟩ := I1.frzK hd
    refine call_enumT (beginsK hsm) ⟨hgd, hx, hdt⟩ fun h' he hit hz hk => wpAny_pyIter_enum he ?_
    have I2 : Inv X pins σ H1 { s1 with heap := h' } := I1.kept (t' := s1.toks) hk
    refine ⟨s1.heap.objs.size + 1, [s1.heap.objs.size + 1, s1.heap.objs.size], _, _, H1, rfl, I2, turn_enumK (s1.heap.objs.size + 1) s1.heap.objs.size hdt, ⟨⟨.none, he⟩, ⟨_, hit, rfl, ?_⟩, Nat.succ_ne_self _⟩, fp2, q⟩
    rw [hsz]; rfl
section
variable {X : Cx} {T : Tbl} {c : Nat → List Vx → Hs → VK2 → Prop} {cx : Cls2} (hc : CalMono c)
include hc
theorem walk_enuk {a : R} {ea : Expr} {elts : List Expr} {kk : Nat} {p pos tpos : Pos} (hg : Gl X "enumerate") (hm : X.mg "enumerate" = none) (hs : starEach [ea] X.env = [(false, eval ea X.env)]) (ha : PE X ea (liftE X.K cx (wpE T c a))) :
    PI X (.Tuple elts kk tpos) (.Call (.Name "enumerate" p) [ea] [] pos) (liftI X.K cx (.enuk a) (wpI T c (.enuk a))) :=
  piImp hc (pi_enumK hg hm (pa_cons ha pa_nil hs) hs) fun σ H R ⟨S, σ2, hr, rs, w⟩ => stepE hc hr rs w fun x S1 v H1 hr1 k1 rs1 r1 ⟨b, kvs, z, ex, eb, w⟩ => by
    subst ex
    cases r1.1
    obtain ⟨h, o, ks, rfl, rd⟩ := hr1 b _ eb
    refine ⟨b, o, ks, rfl, h, w _ H1 hr1 k1 fun Pz hz S' H' σ' hr' k' ok i => ?_⟩
    obtain ⟨h', o', ks', e', rd'⟩ := hr' b _ ok
    cases e'
    have hl : kvs.length = ks.length := DicR.length rd'
    refine ⟨fun d e => ?_, fun e => ⟨h', by rw [← hl]; rw [enumD_length, List.length_map] at e; omega⟩⟩
    obtain ⟨x, e1, rfl⟩ := enumD_get _ _ _ _ e
    rw [List.getElem?_map] at e1
    obtain ⟨p, e2, rfl⟩ := Option.map_eq_some_iff.mp e1
    obtain ⟨k, v, h1, h2, h3⟩ := dicR_get rd' e2
    refine ⟨⟨h', (List.getElem?_eq_some_iff.mp h1).1⟩, fun x H2 y => ?_⟩
    obtain ⟨T', k', v', h4, rfl, n, rfl⟩ := y
    rw [h1] at h4; cases h4
    rw [Nat.zero_add]
    exact pair_new hr' n rfl (keyR_rep h2)
end
end DL

/-! DL13: stores, mutators of a slot's own container. -/
namespace DL
open PySem L2 PySem.Spec PyProof.Rows
section
variable {K : Frag} {cx : Cls2} {S S' S1 : Hs} {H H' H1 H0 : Hp} {σ2 : Sl} {σ : L2.St} {B B' : Bs}
/-- what stands in a slot whose owned place changes -/
theorem RelS.chg (r : RelS B K S H σ2 σ) {i : Nat} {x x' : Vx} {a : Addr} (e : σ2[i]? = some (some x)) (o : own x = true) (e' : σ[i]? = some (some (.ref a))) (hx : RepX K H' S' x' (.ref a)) (hl : lent x' = false)
    (h : ∀ (y : Vx) (v : V), (own y = true → v ≠ .ref a) → (lent y = true → v ≠ .ref a) → RepX K H S y v → RepX K H' S' y v) : RelS B K S' H' (σ2.set i (some x')) σ := by
  have hi := (List.getElem?_eq_some_iff.mp e).1
  obtain ⟨g1, g2, g3⟩ := r.ow i x a e o e'
  have old : ∀ {j : Nat} {y : Vx}, (σ2.set i (some x'))[j]? = some (some y) → (j = i ∧ y = x') ∨ (j ≠ i ∧ σ2[j]? = some (some y)) := fun {j y} ej => by
    by_cases z : j = i
    · subst z; rw [List.getElem?_set_self hi] at ej; cases ej; exact .inl ⟨rfl, rfl⟩
    · rw [List.getElem?_set_ne (Ne.symm z)] at ej; exact .inr ⟨z, ej⟩
  refine ⟨⟨by simp [r.rx.1], fun j y ej => ?_⟩, fun j y b ej oj ej' => ?_, fun j y b ej lj ej' => ?_⟩
  · rcases old ej with ⟨rfl, rfl⟩ | ⟨z, ej⟩
    · exact ⟨_, e', hx⟩
    · obtain ⟨v, h1, h2⟩ := r.rx.2 j y ej
      exact ⟨v, h1, h y v (fun oj ev => z (g3 j y ej oj (ev ▸ h1))) (fun lj ev => g1 (r.lt j y a ej lj (ev ▸ h1))) h2⟩
  · rcases old ej with ⟨rfl, rfl⟩ | ⟨z, ej⟩
    · rw [e'] at ej'; cases ej'
      refine ⟨g1, g2, fun k w ek ok ek' => ?_⟩
      rcases old ek with ⟨rfl, rfl⟩ | ⟨zk, ek⟩
      · rfl
      · exact g3 k w ek ok ek'
    · obtain ⟨f1, f2, f3⟩ := r.ow j y b ej oj ej'
      refine ⟨f1, f2, fun k w ek ok ek' => ?_⟩
      rcases old ek with ⟨rfl, rfl⟩ | ⟨zk, ek⟩
      · exact f3 k x e o ek'
      · exact f3 k w ek ok ek'
  · rcases old ej with ⟨rfl, rfl⟩ | ⟨z, ej⟩
    · rw [hl] at lj; cases lj
    · exact r.lt j y b ej lj ej'
/-- a slot's own container behind a mutator -/
theorem own_mut (hr : Rel K cx S H) (r : RelS B K S H σ2 σ) (kb : KeepB B S H) {i : Nat} {x : Vx} {a : Addr} {c' : Cn} (e : σ2[i]? = some (some x)) (o : own x = true) (e' : σ[i]? = some (some (.ref a))) (m : MOut K cx H a c' H')
    (hc : (∃ ds, c' = .l ds) ∨ ∃ kvs, c' = .k kvs) : Rel K cx S H' ∧ RelS B K S H' (σ2.set i (some c'.v)) σ ∧ KeepB B S H' := by
  obtain ⟨h', rfl, hcn, hs⟩ := m
  obtain ⟨hn, sn⟩ := r.rx.ownH e o e'
  obtain ⟨g1, g2, g3⟩ := r.ow i x a e o e'
  have t : TupS K H (upd H a h') := tupS_upd hs
  refine ⟨hr.upd0 sn t, r.chg e o e' ?_ ?_ fun y v n1 n2 ry => ?_, ⟨fun b z => ?_, fun b z => kb.hn b ?_⟩⟩
  · rcases hc with ⟨ds, rfl⟩ | ⟨kvs, rfl⟩
    · obtain ⟨p, vs, ep, h, rl⟩ := hcn; cases ep; exact ⟨a, vs, rfl, h, sn, rl⟩
    · obtain ⟨p, vs, ep, h, rl⟩ := hcn; cases ep; exact ⟨a, vs, rfl, h, sn, rl⟩
  · rcases hc with ⟨ds, rfl⟩ | ⟨kvs, rfl⟩ <;> rfl
  · cases y with
    | d d => exact RepV.keep t _ _ ry
    | vl ds => obtain ⟨b, vs, rfl, h, n, rl⟩ := ry; exact ⟨b, vs, rfl, by rw [upd_ne fun z => n1 rfl (by rw [z])]; exact h, n, rl.keep t⟩
    | bw ds => obtain ⟨b, vs, rfl, h, n, rl⟩ := ry; exact ⟨b, vs, rfl, by rw [upd_ne fun z => n2 rfl (by rw [z])]; exact h, n, rl.keep t⟩
    | vd ds => obtain ⟨b, vs, rfl, h, n, rl⟩ := ry; exact ⟨b, vs, rfl, by rw [upd_ne fun z => n1 rfl (by rw [z])]; exact h, n, rl.keep t⟩
    | bd ds => obtain ⟨b, vs, rfl, h, n, rl⟩ := ry; exact ⟨b, vs, rfl, by rw [upd_ne fun z => n2 rfl (by rw [z])]; exact h, n, rl.keep t⟩
    | fz ds =>
      obtain ⟨b, vs, rfl, h, rl⟩ := ry
      refine ⟨b, vs, rfl, ?_, rl.keep t⟩
      rcases h with ⟨ob, h, n⟩ | h
      · refine .inl ⟨ob, ?_, n⟩
        rw [upd_ne]
        · exact h
        · rintro rfl
          have := hs _ h
          cases this
      · exact .inr h
    | st ds => exact ry.elim
  · obtain ⟨f1, f2, f3⟩ := kb.st b z
    have ne : b ≠ a := fun q => g1 (q ▸ z)
    exact ⟨f1, by rw [upd_ne ne]; exact f2, by rw [upd_ne ne]; exact f3⟩
  · by_cases ne : b = a
    · subst ne; rw [upd_same] at z; cases z
    · rw [upd_ne ne] at z; exact z
/-- a tracked object is written -/
theorem trk_mut (r : RelS B K S H σ2 σ) (hr : Rel K cx S H) (kb : KeepB B S H) {a : Addr} {ob o' : O} {h' : HO} (e : S a = some ob) (hs : ∀ o, H a = some o → seqish o = false) (hq : RelO K cx (upd H a h') a o') :
    Rel K cx (su S a o') (upd H a h') ∧ Keep S (su S a o') H (upd H a h') := by
  refine ⟨hr.upd1 (tupS_upd hs) hq, fun b o z n => ?_, fun b z => ?_⟩
  · have ne : b ≠ a := fun z => by subst z; rw [e] at n; cases n
    exact ⟨by rw [upd_ne ne]; exact z, by rw [su_ne ne]; exact n⟩
  · by_cases ne : b = a
    · subst ne; rw [upd_same] at z; cases z
    · rw [upd_ne ne] at z; exact z
theorem mutC_lk {m : M} {c : Cn} {xs : List Vx} {P : Cn → D → Prop} (hn : ∀ k, c ≠ .kn k) (w : mutC m c xs S P) : mutC m c xs S fun c' r => ((∃ ds, c' = .l ds) ∨ ∃ kvs, c' = .k kvs) ∧ P c' r := by
  unfold mutC at w ⊢
  split at w
  · exact ⟨w.1, .inl ⟨_, rfl⟩, w.2⟩
  · obtain ⟨y, e, q⟩ := w; exact ⟨y, e, .inl ⟨_, rfl⟩, q⟩
  · obtain ⟨y, e, q⟩ := w; exact ⟨y, e, .inl ⟨_, rfl⟩, q⟩
  · exact ⟨w.1, .inl ⟨_, rfl⟩, w.2⟩
  · exact ⟨w.1, w.2.1, .inr ⟨_, rfl⟩, w.2.2⟩
  · exact (hn _ rfl).elim
  · exact ⟨w.1, w.2.1, .inl ⟨_, rfl⟩, w.2.2⟩
  · exact view_mono (fun c ⟨n, e, z, q⟩ => ⟨n, e, z, .inl ⟨_, rfl⟩, q⟩) w
  · exact ⟨.inl ⟨_, rfl⟩, w⟩
  · exact w.elim
theorem putF_rel {f : Str} {d : D} {v : V} (rv : RepV K H d v) : ∀ (fv : List (Str × V)) (ns : List Str) (k : Nat) (fs : List D), ns.Nodup → fv.map Prod.fst = ns.take fs.length → fs.length ≤ ns.length → ns[k]? = some f → k ≤ fs.length → RepL K H fs (fv.map Prod.snd) →
    (putF f v fv).map Prod.fst = ns.take (setF fs k d).length ∧ (setF fs k d).length ≤ ns.length ∧ RepL K H (setF fs k d) ((putF f v fv).map Prod.snd)
  | [], ns, k, fs, nd, hm, hl, hk, hle, r => by
    have e : fs = [] := by cases fs with | nil => rfl | cons d ds => obtain ⟨_, _, q, _⟩ := r; cases q
    subst e
    have e : k = 0 := by simpa using hle
    subst e
    cases ns with
    | nil => simp at hk
    | cons n ns =>
      simp at hk; subst hk
      exact ⟨rfl, by simp [setF], ⟨v, [], rfl, rv, rfl⟩⟩
  | (g, u) :: fr, ns, k, fs, nd, hm, hl, hk, hle, r => by
    cases fs with
    | nil => simp at hm
    | cons d0 fs =>
      obtain ⟨v0, vr, ev, r0, rr⟩ := r
      simp at ev
      obtain ⟨rfl, rfl⟩ := ev
      cases ns with
      | nil => simp at hm
      | cons n ns =>
        simp at hm
        obtain ⟨rfl, hm⟩ := hm
        cases k with
        | zero =>
          simp at hk; subst hk
          have e1 : putF g v ((g, u) :: fr) = (g, v) :: fr := by show (if g = g then _ else _) = _; rw [if_pos rfl]
          have e2 : setF (d0 :: fs) 0 d = d :: fs := by show (if 0 = (d0 :: fs).length then _ else _) = _; rw [if_neg (by simp)]; rfl
          rw [e1, e2]
          exact ⟨by simp [hm], by simpa using hl, ⟨v, _, rfl, rv, rr⟩⟩
        | succ k =>
          have hk : ns[k]? = some f := by simpa using hk
          have ne : ¬ g = f := fun z => (List.nodup_cons.mp nd).1 (z ▸ List.mem_of_getElem? hk)
          have e1 : putF f v ((g, u) :: fr) = (g, u) :: putF f v fr := by show (if g = f then _ else _) = _; rw [if_neg ne]
          have e2 : setF (d0 :: fs) (k + 1) d = d0 :: setF fs k d := by
            unfold setF
            by_cases z : k = fs.length
            · rw [if_pos z, if_pos (by simp [z])]; rfl
            · rw [if_neg z, if_neg (by simpa using z)]; rfl
          obtain ⟨h1, h2, h3⟩ := putF_rel rv fr ns k fs (List.nodup_cons.mp nd).2 hm (by simpa using hl) hk (by simpa using hle) rr
          rw [e1, e2]
          exact ⟨by simp [h1], by simpa using h2, ⟨u, _, rfl, r0, h3⟩⟩
end
section
variable {X : Cx} {T : Tbl} {c : Nat → List Vx → Hs → VK2 → Prop} {cx : Cls2} (hc : CalMono c)
include hc
/-- a value is boxed within a statement -/
theorem stepBx {K : Frag} {S S1 : Hs} {H H1 : Hp} {σ2 : Sl} {σ : L2.St} {B : Bs} {x : Vx} {v : V} {P : D → Hs → Prop} (hr : Rel K cx S H) (rs : RelS B K S H σ2 σ) (kb : KeepB B S H) (hr1 : Rel K cx S1 H1) (k1 : Keep S S1 H H1) (r : RepR K H H1 S1 x v) (w : bx x S1 P) :
    ∃ d S2, P d S2 ∧ Rel K cx S2 H1 ∧ RepV K H1 d v ∧ RelS B K S2 H1 σ2 σ ∧ KeepB B S2 H1 := by
  obtain ⟨d, S2, w, hr2, k2, r2, _⟩ := rel_box hc hr1 k1 r w
  exact ⟨d, S2, w, hr2, r2, rs.keep k2 hr, kb.keep k2⟩
theorem st_seti {o k e : R} {st : Stmt} (h : PS X st (tAsg (liftE X.K cx (wpE T c e)) (gSub (liftE X.K cx (wpE T c o)) (liftE X.K cx (wpE T c k)) (pset X.K cx)))) : PS X st (liftS X.K cx (wpS T c (.seti o k e))) :=
  psImp h fun D σ H ⟨B, S, σ2, hr, rs, kb, w⟩ => stepSE hc hr rs kb w fun y S1 v H1 hr1 k1 rs1 kb1 r1 w => by
    obtain ⟨d, S2, w, hr2, rd, rs2, kb2⟩ := stepBx hc hr rs kb hr1 k1 r1 w
    refine stepSE hc hr2 rs2 kb2 w fun x S3 xv H3 hr3 k3 rs3 kb3 r3 w => stepSE hc hr3 rs3 kb3 w fun z S4 zv H4 hr4 k4 rs4 kb4 r4 ⟨a, ob, kd, ex, ea, ez, w2⟩ => ?_
    subst ex ez
    cases r3.1
    obtain rk : RepV X.K H4 kd zv := r4.1
    have rd4 := RepV.keep (k4.tups hr3) _ _ (RepV.keep (k3.tups hr2) _ _ rd)
    have z := hr4 a ob ea
    have hcn : CnR X.K cx H4 ob.cn (.ref a) := by
      cases ob with
      | lst ds => obtain ⟨us, h, r⟩ := z; exact ⟨a, us, rfl, h, r⟩
      | dic ds => obtain ⟨us, h, r⟩ := z; exact ⟨a, us, rfl, h, r⟩
      | fdc ds y => obtain ⟨h, o, ks, e1, r⟩ := z; subst e1; exact ⟨a, ks, o, rfl, h, r⟩
      | dn ds => obtain ⟨us, h, r⟩ := z; exact ⟨a, us, rfl, h, r⟩
      | fdn ds y ks => obtain ⟨h, o, e1, r⟩ := z; subst e1; exact ⟨a, ks, o, rfl, h, r⟩
      | ins ci fs => exact ⟨a, rfl, z⟩
    refine ⟨S4, ob.cn, a, kd, d, hr4, rfl, hcn, rk, rd4, mutC_mono (fun c' r ⟨o', ho', w⟩ H' mo => ?_) w2⟩
    obtain ⟨h1, h2⟩ := mout_rel hr4 ea mo ho'
    exact w B σ H' .refl h1 (rs4.keep h2 hr4) (kb4.keep h2)
theorem ownC_of {x : Vx} {P : Cn → Prop} (h : ownC x P) : ∃ cn, P cn ∧ own x = true ∧ ((∃ ds, x = .vl ds ∧ cn = .l ds) ∨ ∃ kvs, x = .vd kvs ∧ cn = .k kvs) := by
  cases x <;> first | exact ⟨_, h, rfl, .inl ⟨_, rfl, rfl⟩⟩ | exact ⟨_, h, rfl, .inr ⟨_, rfl, rfl⟩⟩ | exact h.elim
theorem own_cn {K : Frag} {H : Hp} {S : Hs} {x : Vx} {v : V} {cn : Cn} (r : RepX K H S x v) (h : (∃ ds, x = .vl ds ∧ cn = .l ds) ∨ ∃ kvs, x = .vd kvs ∧ cn = .k kvs) : ∃ a, v = .ref a ∧ CnR K cx H cn (.ref a) := by
  rcases h with ⟨ds, rfl, rfl⟩ | ⟨kvs, rfl, rfl⟩
  · obtain ⟨a, vs, rfl, h, n, rl⟩ := r; exact ⟨a, rfl, a, vs, rfl, h, rl⟩
  · obtain ⟨a, vs, rfl, h, n, rl⟩ := r; exact ⟨a, rfl, a, vs, rfl, h, rl⟩
theorem st_oseti {i : Nat} {k e : R} {st : Stmt} (h : PS X st (tAsg (liftE X.K cx (wpE T c e)) (gSub (tVar i) (liftE X.K cx (wpE T c k)) (pset X.K cx)))) : PS X st (liftS X.K cx (wpS T c (.oseti i k e))) :=
  psImp h fun D σ H ⟨B, S, σ2, hr, rs, kb, w⟩ => stepSE hc hr rs kb w fun y S1 v H1 hr1 k1 rs1 kb1 r1 w => by
    obtain ⟨d, S2, w, hr2, rd, rs2, kb2⟩ := stepBx hc hr rs kb hr1 k1 r1 w
    obtain ⟨x, ex, w⟩ := w
    obtain ⟨xv, exv, rx⟩ := rs2.rx.2 i x ex
    refine ⟨xv, exv, stepSE hc hr2 rs2 kb2 w fun z S4 zv H4 hr4 k4 rs4 kb4 r4 ⟨kd, ez, w⟩ => ?_⟩
    subst ez
    have rd4 := RepV.keep (k4.tups hr2) _ _ rd
    obtain ⟨cn, w, ho, hcs⟩ := ownC_of hc w
    obtain ⟨a, rfl, hcn⟩ := own_cn (cx := cx) hc (rx.keep k4 hr2) hcs
    refine ⟨S4, cn, a, kd, d, hr4, rfl, hcn, r4.1, rd4, mutC_mono (fun c' r ⟨hlk, w⟩ H' mo => ?_) (mutC_lk (fun k e => by subst e; rcases hcs with ⟨ds, _, q⟩ | ⟨ds, _, q⟩ <;> cases q) w)⟩
    obtain ⟨h1, h2, h3⟩ := own_mut hr4 rs4 kb4 ex ho exv mo hlk
    exact w B σ H' .refl h1 h2 h3
/-- xs.append(..), as a statement; y = xs.pop(..) -/
theorem st_om {m : M} {i : Nat} {as : R} {st : Stmt} {es : List Expr} {te : TE} (ht : ∀ σ H Q, tBM X.K "list" (mOf X.K cx m) (tVar i) (liftA X.K cx (wpE T c as)) σ H Q → te σ H Q) (dst : Option Nat) (h : PS X st (match dst with
    | none => tDrop te
    | some j => tAsg te (gName j))) : PS X st (liftS X.K cx (wpS T c (.om m i as dst))) :=
  psImp h fun D σ H ⟨B, S, σ2, hr, rs, kb, ds, ex, w⟩ => by
    obtain ⟨xv, exv, rx⟩ := rs.rx.2 i _ ex
    have key : ∀ Q : VK, (∀ r H' v, (∃ (S' : Hs) (σ2' : Sl), Rel X.K cx S' H' ∧ RelS B X.K S' H' σ2' σ ∧ KeepB B S' H' ∧ RepV X.K H' r v ∧ nxS X.K cx B D.nx (dstS dst r σ2') S') → Q v H') → te σ H Q := fun Q q => by
      have rx0 := rx
      obtain ⟨a, vs, rfl, ha, na, rl⟩ := rx
      refine ht _ _ _ ⟨_, exv, .inl ⟨rfl, vs, SqL.of ha⟩, stepA hc hr rs.rx w fun xs S1 vs1 H1 hr1 k1 rs1 r1 w => ?_⟩
      obtain ⟨h1, h2⟩ := k1.kp _ _ ha na
      refine ⟨S1, .l ds, a, xs, hr1, rfl, ⟨a, vs, rfl, h1, rl.keep (k1.tups hr)⟩, r1, mutC_mono (fun c' r ⟨hlk, w⟩ H' v mo rv => ?_) (mutC_lk (fun k e => by cases e) w)⟩
      obtain ⟨h1, h2, h3⟩ := own_mut hr1 (rs.keep k1 hr) (kb.keep k1) ex rfl exv mo hlk
      exact q r H' v ⟨S1, _, h1, h2, h3, rv, w⟩
    cases dst with
    | none => exact key _ fun r H' v ⟨S', σ2', h1, h2, h3, rv, w⟩ => w B σ H' .refl h1 h2 h3
    | some j => exact key _ fun r H' v ⟨S', σ2', h1, h2, h3, rv, w⟩ => w B _ H' .refl h1 (h2.setD rv) h3
theorem st_fset {o e : R} {ci k : Nat} {f : Str} {eo ee : Expr} {pos' pos : Pos} (ok : ClsOk X.K cx ci) (hf : (cx.lay ci)[k]? = some f) (ho : PE X eo (liftE X.K cx (wpE T c o))) (he : PE X ee (liftE X.K cx (wpE T c e))) (hs : swapsWith ee (some (.Attribute eo f pos')) pos.line X.env = pure false) :
    PS X (.Assign [.Attribute eo f pos'] ee pos) (liftS X.K cx (wpS T c (.fset o ci k e))) :=
  psImp (ps_fld ho he hs) fun D σ H ⟨B, S, σ2, hr, rs, kb, w⟩ => stepSE hc hr rs kb w fun y S1 v H1 hr1 k1 rs1 kb1 r1 w => by
    obtain ⟨d, S2, w, hr2, rd, rs2, kb2⟩ := stepBx hc hr rs kb hr1 k1 r1 w
    refine stepSE hc hr2 rs2 kb2 w fun x S3 xv H3 hr3 k3 rs3 kb3 r3 ⟨a, fs, ex, ea, hle, w⟩ => ?_
    subst ex
    cases r3.1
    obtain ⟨dx, fv, h1, h2, h3, h4⟩ := hr3 a _ ea
    have rd3 := RepV.keep (k3.tups hr2) _ _ rd
    obtain ⟨g1, g2, g3⟩ := putF_rel rd3 fv _ k fs ok.nd h2 h3 hf hle h4
    have hl : fv.length < 1000 := by have := h4.length; have := ok.few; simp at *; omega
    refine ⟨a, _, dx, fv, rfl, h1, ok.cl, ok.no f (List.mem_of_getElem? hf), hl, ?_⟩
    have hs : ∀ o, H3 a = some o → seqish o = false := fun o e => by rw [h1] at e; cases e; rfl
    obtain ⟨q1, q2⟩ := trk_mut (h' := .ins (cx.adr ci) dx (putF f v fv)) (o' := .ins ci (setF fs k d)) rs3 hr3 kb3 ea hs ⟨dx, _, upd_same, g1, g2, g3.keep (tupS_upd hs)⟩
    exact w B σ _ .refl q1 (rs3.keep q2 hr3) (kb3.keep q2)
theorem st_faug {o e : R} {ci k : Nat} {f : Str} {eo ee : Expr} {tpos pos : Pos} (ok : ClsOk X.K cx ci) (hf : (cx.lay ci)[k]? = some f) (ho : PE X eo (liftE X.K cx (wpE T c o))) (he : PE X ee (liftE X.K cx (wpE T c e))) :
    PS X (.AugAssign (.Attribute eo f tpos) .Add ee pos) (liftS X.K cx (wpS T c (.faug o ci k e))) :=
  psImp (ps_fldaug ho he in_add) fun D σ H ⟨B, S, σ2, hr, rs, kb, w⟩ => stepSE hc hr rs kb w fun x S1 xv H1 hr1 k1 rs1 kb1 r1 ⟨a, fs, i, ex, ea, ef, w⟩ => by
    subst ex
    cases r1.1
    obtain ⟨dx, fv, h1, h2, h3, h4⟩ := hr1 a _ ea
    obtain ⟨u, h5, h6⟩ := lookup_fld hc ok.nd h2 hf h4 ef
    cases h6
    refine ⟨a, _, dx, fv, _, rfl, h1, ok.cl, ok.no f (List.mem_of_getElem? hf), h5, stepSE hc hr1 rs1 kb1 w fun y S2 yv H2 hr2 k2 rs2 kb2 r2 ⟨j, fs', ey, ea', hlt, w⟩ => ?_⟩
    subst ey
    cases r2.1
    refine ⟨i, j, rfl, rfl, ?_⟩
    obtain ⟨dx', fv', g1, g2, g3, g4⟩ := hr2 a _ ea'
    obtain ⟨p1, p2, p3⟩ := putF_rel (d := .int (i + j)) (v := .int (i + j)) rfl fv' _ k fs' ok.nd g2 g3 hf (Nat.le_of_lt hlt) g4
    have hl : fv'.length < 1000 := by have := g4.length; have := ok.few; simp at *; omega
    refine ⟨dx', fv', g1, hl, ?_⟩
    have hs : ∀ o, H2 a = some o → seqish o = false := fun o e => by rw [g1] at e; cases e; rfl
    obtain ⟨q1, q2⟩ := trk_mut (h' := .ins (cx.adr ci) dx' (putF f (.int (i + j)) fv')) (o' := .ins ci (setF fs' k (.int (i + j)))) rs2 hr2 kb2 ea' hs ⟨dx', _, upd_same, p1, p2, p3.keep (tupS_upd hs)⟩
    exact w B σ _ .refl q1 (rs2.keep q2 hr2) (kb2.keep q2)
/-- a slot's own container comes to stand in the heap -/
theorem st_box {i : Nat} {D : Ends} {σ : L2.St} {H : Hp} {r : R} (w : liftS X.K cx (wpS T c (.seq (.box i) r)) D σ H) : liftS X.K cx (wpS T c r) D σ H := by
  obtain ⟨B, S, σ2, hr, rs, kb, x, ex, w⟩ := w
  obtain ⟨xv, exv, rx⟩ := rs.rx.2 i _ ex
  have same : ∀ d, x = .d d → σ2.set i (some (.d d)) = σ2 := fun d e => by
    subst e
    obtain ⟨hi, e⟩ := List.getElem?_eq_some_iff.mp ex
    rw [← e]; exact List.set_getElem_self hi
  have go : ∀ (a : Addr) (o : O), own x = true → xv = .ref a → RelO X.K cx H a o → wpS T c r (σ2.set i (some (.d (.ref a)))) (su S a o) (nxS X.K cx B D.nx) (rtS X.K cx B D.rt) (nxS X.K cx B D.bk) (nxS X.K cx B D.ct) → liftS X.K cx (wpS T c r) D σ H := fun a o hx e ro w => by
    subst e
    obtain ⟨g1, g2, g3⟩ := rs.ow i x a ex hx exv
    refine ⟨B, su S a o, _, hr.box ro, rs.chg (x' := .d (.ref a)) ex hx exv (show RepV X.K H (.ref a) (.ref a) from rfl) rfl fun y v n1 n2 ry => ?_, ⟨fun b z => ?_, kb.hn⟩, w⟩
    · cases y with
      | d d => exact ry
      | vl ds => obtain ⟨b, vs, rfl, h, n, rl⟩ := ry; exact ⟨b, vs, rfl, h, by rw [su_ne fun z => n1 rfl (by rw [z])]; exact n, rl⟩
      | bw ds => obtain ⟨b, vs, rfl, h, n, rl⟩ := ry; exact ⟨b, vs, rfl, h, by rw [su_ne fun z => n2 rfl (by rw [z])]; exact n, rl⟩
      | vd ds => obtain ⟨b, vs, rfl, h, n, rl⟩ := ry; exact ⟨b, vs, rfl, h, by rw [su_ne fun z => n1 rfl (by rw [z])]; exact n, rl⟩
      | bd ds => obtain ⟨b, vs, rfl, h, n, rl⟩ := ry; exact ⟨b, vs, rfl, h, by rw [su_ne fun z => n2 rfl (by rw [z])]; exact n, rl⟩
      | fz ds =>
        obtain ⟨b, vs, rfl, h, rl⟩ := ry
        refine ⟨b, vs, rfl, ?_, rl⟩
        rcases h with ⟨ob, h, n⟩ | h
        · refine .inl ⟨ob, h, ?_⟩
          rw [su_ne]
          · exact n
          · rintro rfl
            obtain ⟨h', z, s⟩ := ro.some
            rw [h] at z; cases z; cases s
        · exact .inr h
      | st ds => exact ry.elim
    · obtain ⟨f1, f2, f3⟩ := kb.st b z
      exact ⟨by rw [su_ne fun q : b = a => g1 (by rw [← q]; exact z)]; exact f1, f2, f3⟩
  cases x with
  | d d => exact ⟨B, S, σ2, hr, rs, kb, by
    have w : wpS T c r (σ2.set i (some (.d d))) S (nxS X.K cx B D.nx) (rtS X.K cx B D.rt) (nxS X.K cx B D.bk) (nxS X.K cx B D.ct) := w
    rw [same d rfl] at w; exact w⟩
  | vl ds => obtain ⟨a, vs, rfl, h, n, rl⟩ := rx; exact go a (.lst ds) rfl rfl ⟨vs, h, rl⟩ (w a n)
  | vd ds => obtain ⟨a, vs, rfl, h, n, rl⟩ := rx; exact go a (.dic ds) rfl rfl ⟨vs, h, rl⟩ (w a n)
  | bw ds => exact w.elim
  | fz ds => exact w.elim
  | bd ds => exact w.elim
  | st ds => exact w.elim
end
end DL

/-! DL14: R against the text: the matcher. -/
namespace DL
open PySem L2 PySem.Spec PyProof.Rows
structure Nm where
  fnm : Nat → Str
  mnm : Nat → Str
  gnm : Nat → Str
  cnm : Nat → Str
  lay : Nat → List Str
  isF : Nat → Bool
  isM : Nat → Bool
  isG : Nat → Bool
  isC : Nat → Bool
  isL : Nat → Bool
def glB (sc : Scope) (x : Str) : Bool := match sc.names.lookup x with
  | some .globalImplicit => true
  | _ => false
def visB (sc : Scope) (x : Str) : Bool := match sc.names.lookup x with
  | some .local => true
  | some .cell => true
  | some .free => true
  | _ => false
def locB (sc : Scope) (x : Str) : Bool := match sc.names.lookup x with
  | some .local => true
  | _ => false
def celB (sc : Scope) (x : Str) : Bool := match sc.names.lookup x with
  | some .cell => true
  | _ => false
/-- a local; where it may be, a cell -/
def lcB (c : Bool) (sc : Scope) (x : Str) : Bool := locB sc x || (c && celB sc x)
def noDbg (x : Str) : Bool := !(x == ("__debug__" : Str)) && !(x == ("__classdict__" : Str))
def vOk (N : List Str) (sc : Scope) (i : Nat) (x : Str) : Bool := decide (N[i]? = some x) && visB sc x && noDbg x
def gOk (sc : Scope) (x : Str) : Bool := glB sc x && noDbg x
def notStar : Expr → Bool
  | .Starred _ _ => false
  | _ => true
def noSup : Expr → Bool
  | .Call (.Name _ _) [] [] _ => false
  | _ => true
def noMark : Expr → Bool
  | .Set _ _ _ => false
  | _ => true
def plainI : Expr → Bool
  | .Slice _ _ _ _ => false
  | _ => true
def valF : Expr → Bool
  | .UnaryOp _ _ _ => false
  | .BoolOp _ _ _ => false
  | .IfExp _ _ _ _ => false
  | .Compare _ _ _ _ => false
  | _ => true
def isTupE : Expr → Bool
  | .Tuple _ _ _ => true
  | _ => false
def noSet : Expr → Bool
  | .Set _ _ _ => false
  | _ => true
def binO : O2 → Operator → Bool
  | .add, .Add => true
  | .sub, .Sub => true
  | .mul, .Mult => true
  | .fdiv, .FloorDiv => true
  | .mod, .Mod => true
  | .pow, .Pow => true
  | _, _ => false
def cmpO : O2 → CmpOp → Bool
  | .eq, .Eq => true
  | .ne, .NotEq => true
  | .eqh, .Eq => true
  | .neh, .NotEq => true
  | .lt, .Lt => true
  | .le, .LtE => true
  | .gt, .Gt => true
  | .ge, .GtE => true
  | .is, .Is => true
  | .isnt, .IsNot => true
  | .mem, .In => true
  | .nmem, .NotIn => true
  | .memh, .In => true
  | .nmemh, .NotIn => true
  | _, _ => false
def o1N : O1 → Str
  | .len => "len"
  | .int => "int"
  | .str => "str"
  | .list => "list"
  | .tuple => "tuple"
  | .sorted => "sorted"
  | .all => "all"
  | .any => "any"
  | .dict => "dict"
  | .dictP => "dict"
  | .sortedP => "sorted"
  | .sum => "sum"
  | .sortedN => "sorted"
  | .sortedDn => "sorted"
  | .listDn => "list"
  | .listK => "list"
  | .lenDn => "len"
  | .maxl => "max"
  | .minl => "min"
  | _ => ""
def o1B : O1 → Bool
  | .neg => false
  | .isi _ => false
  | _ => true
def tyN (t : Ty) : Str := Str.ofString t.nm
def mN : M → Str
  | .append => "append"
  | .pop => "pop"
  | .popAt => "pop"
  | .insert => "insert"
  | .extend => "extend"
  | .clear => "clear"
  | .setI => ""
def bmN : BM → Str
  | .index => "index"
  | .count => "count"
  | .join => "join"
  | .split => "split"
def mA0 : M → Bool
  | .pop => true
  | .clear => true
  | _ => false
def mA1 : M → Bool
  | .append => true
  | .popAt => true
  | .insert => true
  | .extend => true
  | _ => false
def noStars (es : List Expr) : Bool := es.all notStar && decide (es.length < 20)
def tgB (N : List Str) (c : Bool) (sc : Scope) : Tg → Expr → Bool
  | .nm i, .Name x _ => decide (N[i]? = some x) && lcB c sc x
  | .tp is, .Tuple es _ _ => go is es
  | _, _ => false
where go : List Nat → List Expr → Bool
  | [], [] => true
  | i :: is, .Name x _ :: es => decide (N[i]? = some x) && lcB c sc x && go is es
  | _, _ => false
def ownN (N : List Str) (is : List Nat) : List (Str × Nat) := is.map fun i => (N.getD i "", i)
def atL (pos pos' : Pos) : Bool := pos.endLine == pos'.line
section
variable (nm : Nm) (N : List Str)
mutual
def mE : R → Bool → Scope → Expr → Bool
  | .v i, tt, sc, e => match e with
    | .Name x _ => vOk N sc i x
    | _ => false
  | .i n, tt, sc, e => match e with
    | .Constant (.int m) _ _ => decide (n = m) && !tt
    | _ => false
  | .s x, tt, sc, e => match e with
    | .Constant (.str y) _ _ => decide (y = sv x) && !tt
    | _ => false
  | .b x, tt, sc, e => match e with
    | .Constant (.bool y) _ _ => decide (x = y)
    | _ => false
  | .n, tt, sc, e => match e with
    | .Constant .none _ _ => !tt
    | _ => false
  | .g k, tt, sc, e => match e with
    | .Name x _ => decide (x = nm.gnm k) && gOk sc x && nm.isG k
    | _ => false
  | .o1 o a, tt, sc, e => match e with
    | .UnaryOp .USub x _ => decide (o = .neg) && mE a false sc x && !tt
    | .Call (.Name f _) [x] [] _ => o1B o && decide (f = o1N o) && gOk sc f && notStar x && mE a false sc x
    | .Call (.Name f _) [x, .Name t _] [] _ => match o with
      | .isi ty => decide (f = ("isinstance" : Str)) && gOk sc f && decide (t = tyN ty) && gOk sc t && notStar x && mE a false sc x
      | _ => false
    | _ => false
  | .o2 o a b, tt, sc, e => match e with
    | .BinOp l op r _ => binO o op && mE a false sc l && mE b false sc r && !tt
    | .Compare l [op] [r] _ => cmpO o op && noMark r && mE a false sc l && mE b false sc r
    | .Subscript l r _ => decide (o = .idx) && plainI r && mE a false sc l && mE b false sc r
    | .Call (.Name f _) [x, y] [] _ => ((decide (o = .min) && decide (f = ("min" : Str))) || (decide (o = .max) && decide (f = ("max" : Str)))) && gOk sc f && notStar x && notStar y && mE a false sc x && mE b false sc y
    | _ => false
  | .tup as, tt, sc, e => match e with
    | .Tuple es _ _ => mA as sc es && !tt
    | _ => false
  | .lst as, tt, sc, e => match e with
    | .List es _ => mA as sc es && !tt
    | _ => false
  | .dct, tt, sc, e => match e with
    | .Dict [] [] _ => !tt
    | _ => false
  | .dctp ps, tt, sc, e => match e with
    | .Dict keys values _ => !tt && decide (keys.length ≤ 15) && decide (1 ≤ keys.length) && mPr ps sc keys values
    | _ => false
  | .get1 o k, tt, sc, e => match e with
    | .Call (.Attribute eo f apos) [ek] [] pos => decide (f = ("get" : Str)) && noSup eo && atL apos pos && notStar ek && mE o false sc eo && mE k false sc ek
    | _ => false
  | .dpop o k, tt, sc, e => match e with
    | .Call (.Attribute eo f apos) [ek] [] pos => decide (f = ("pop" : Str)) && noSup eo && atL apos pos && notStar ek && mE o false sc eo && mE k false sc ek
    | _ => false
  | .get2 o k d, tt, sc, e => match e with
    | .Call (.Attribute eo f apos) [ek, ed] [] pos => decide (f = ("get" : Str)) && noSup eo && atL apos pos && notStar ek && notStar ed && mE o false sc eo && mE k false sc ek && mE d false sc ed
    | _ => false
  | .one a, tt, sc, e => match e with
    | .BoolOp op [x] _ => mE a tt sc x
    | .BoolOp _ _ _ => false
    | _ => false
  | .and a r, tt, sc, e => match e with
    | .BoolOp .And (x :: y :: rest) p => mE a tt sc x && mE r tt sc (.BoolOp .And (y :: rest) p)
    | _ => false
  | .or a r, tt, sc, e => match e with
    | .BoolOp .Or (x :: y :: rest) p => mE a tt sc x && mE r tt sc (.BoolOp .Or (y :: rest) p)
    | _ => false
  | .not a, tt, sc, e => match e with
    | .UnaryOp .Not x _ => mE a tt sc x
    | _ => false
  | .ife k a b, tt, sc, e => match e with
    | .IfExp ek ea eb _ => mE k true sc ek && mE a false sc ea && mE b false sc eb && !tt
    | _ => false
  | .chain o o' a b k, tt, sc, e => match e with
    | .Compare l [op, op'] [m, r] _ => cmpO o op && cmpO o' op' && noMark m && noMark r && mE a false sc l && mE b false sc m && mE k false sc r
    | _ => false
  | .slc a lo hi, tt, sc, e => match e with
    | .Subscript x (.Slice l h none _) _ => !tt && mE a false sc x && (match l with
        | none => (match lo with | .n => true | _ => false)
        | some l => (match lo with | .n => false | _ => true) && mE lo false sc l) && (match h with
        | none => (match hi with | .n => true | _ => false)
        | some h => (match hi with | .n => false | _ => true) && mE hi false sc h)
    | _ => false
  | .call f as, tt, sc, e => match e with
    | .Call (.Name x _) es [] _ => decide (x = nm.fnm f) && gOk sc x && nm.isF f && noStars es && mA as sc es && (match es with | [] => (match as with | .nil => true | _ => false) | _ => true)
    | _ => false
  | .meth f o as, tt, sc, e => match e with
    | .Call (.Attribute eo m apos) es [] pos => decide (m = nm.mnm f) && nm.isM f && noSup eo && atL apos pos && noStars es && mE o false sc eo && mA as sc es && (match es with | [] => (match as with | .nil => true | _ => false) | _ => true)
    | _ => false
  | .make ci as, tt, sc, e => match e with
    | .Call (.Name x _) (e :: es) [] _ => decide (x = nm.cnm ci) && gOk sc x && nm.isC ci && noStars (e :: es) && mA as sc (e :: es) && !tt
    | _ => false
  | .fld o ci k, tt, sc, e => match e with
    | .Attribute eo f _ => decide ((nm.lay ci)[k]? = some f) && nm.isL ci && noSup eo && mE o false sc eo
    | _ => false
  | .hm m o as, tt, sc, e => match e with
    | .Call (.Attribute eo f apos) es [] pos => decide (f = mN m) && noSup eo && atL apos pos && noStars es && mE o false sc eo && !tt && (match es with
      | [] => mA0 m && (match as with | .nil => true | _ => false)
      | _ => mA1 m && mA as sc es)
    | _ => false
  | .comp tg elt it tst, tt, sc, e => match e with
    | .ListComp eelt [⟨etg, eit, ifs, 0⟩] scope _ => !tt && tgB N false (relS scope sc) tg etg && mI it (isTupE etg) sc eit && blkC N sc scope (ownN N tg.is) && noSet eit && mE elt false (relS scope sc) eelt && (match ifs with
      | [] => (match tst with | .b true => true | _ => false)
      | [k] => mE tst true (relS scope sc) k
      | _ => false)
    | _ => false
  | .lockE a, tt, sc, e => !tt && mE a false sc e
  | .lockEN a, tt, sc, e => !tt && mE a false sc e
  | .lend i a, tt, sc, e => valF e && mE a false sc e
  | .dctn, tt, sc, e => match e with
    | .Dict [] [] _ => !tt
    | _ => false
  | .stp a k, tt, sc, e => match e with
    | .Subscript x (.Slice none none (some y) _) _ => !tt && mE a false sc x && mE k false sc y
    | _ => false
  | .sIt a, tt, sc, e => match e with
    | .Call (.Name f _) [.Call (.Attribute eo g apos) [] [] cpos] [] _ => !tt && decide (f = ("sorted" : Str)) && gOk sc f && decide (g = ("items" : Str)) && noSup eo && atL apos cpos && mE a false sc eo
    | _ => false
  | .rev a, tt, sc, e => match e with
    | .Subscript eo (.Slice none none (some (.UnaryOp .USub (.Constant (.int 1) _ _) _)) _) _ => !tt && mE a false sc eo
    | _ => false
  | .lrg a, tt, sc, e => match e with
    | .Call (.Name f _) [.Call (.Name g _) [x] [] _] [] _ => !tt && decide (f = ("list" : Str)) && gOk sc f && decide (g = ("range" : Str)) && gOk sc g && notStar x && mE a false sc x
    | _ => false
  | .upper a, tt, sc, e => match e with
    | .Call (.Attribute eo f apos) [] [] pos => !tt && decide (f = ("upper" : Str)) && noSup eo && atL apos pos && mE a false sc eo
    | _ => false
  | .bm1 m o a, tt, sc, e => match e with
    | .Call (.Attribute eo f apos) [x] [] pos => !tt && decide (f = bmN m) && noSup eo && atL apos pos && notStar x && mE o false sc eo && mE a false sc x
    | _ => false
  | _, _, _, _ => false
def mA : R → Scope → List Expr → Bool
  | .nil, sc, es => match es with
    | [] => true
    | _ => false
  | .cons a r, sc, es => match es with
    | e :: es => notStar e && mE a false sc e && mA r sc es
    | _ => false
  | .consb a r, sc, es => match es with
    | e :: es => notStar e && mE a false sc e && mA r sc es
    | _ => false
  | _, _, _ => false
/-- the pairs of a display -/
def mPr : R → Scope → List (Option Expr) → List Expr → Bool
  | .nil, sc, ks, vs => match ks, vs with
    | [], [] => true
    | _, _ => false
  | .pr k v r, sc, ks, vs => match ks, vs with
    | some ek :: ks, ev :: vs => mE k false sc ek && mE v false sc ev && mPr r sc ks vs
    | _, _ => false
  | _, _, _, _ => false
/-- what is walked; the target: a tuple? -/
def mI : R → Bool → Scope → Expr → Bool
  | .itv i, tp, sc, e => match e with
    | .Name x _ => vOk N sc i x
    | _ => false
  | .ite a, tp, sc, e => mE a false sc e
  | .itk a, tp, sc, e => mE a false sc e
  | .itkn a, tp, sc, e => mE a false sc e
  | .itms a, tp, sc, e => match e with
    | .Call (.Attribute eo f apos) [] [] pos => tp && decide (f = ("items" : Str)) && noSup eo && atL apos pos && mE a false sc eo
    | _ => false
  | .rng a, tp, sc, e => match e with
    | .Call (.Name f _) [x] [] _ => decide (f = ("range" : Str)) && gOk sc f && notStar x && mE a false sc x
    | _ => false
  | .rng2 a b, tp, sc, e => match e with
    | .Call (.Name f _) [x, y] [] _ => decide (f = ("range" : Str)) && gOk sc f && notStar x && notStar y && mE a false sc x && mE b false sc y
    | _ => false
  | .enuk a, tp, sc, e => match e with
    | .Call (.Name f _) [x] [] _ => tp && decide (f = ("enumerate" : Str)) && gOk sc f && notStar x && mE a false sc x
    | _ => false
  | .enu a, tp, sc, e => match e with
    | .Call (.Name f _) [x] [] _ => tp && decide (f = ("enumerate" : Str)) && gOk sc f && notStar x && mS a sc x
    | _ => false
  | .zip a b, tp, sc, e => match e with
    | .Call (.Name f _) [x, y] [] _ => tp && decide (f = ("zip" : Str)) && gOk sc f && notStar x && notStar y && mS a sc x && mS b sc y
    | _ => false
  | _, _, _, _ => false
def mS : R → Scope → Expr → Bool
  | .itv i, sc, e => match e with
    | .Name x _ => vOk N sc i x
    | _ => false
  | .ite a, sc, e => mE a false sc e
  | _, _, _ => false
end
end
end DL

/-! DL15: the matcher is sound (expressions). -/
namespace DL
open PySem L2 PySem.Spec PyProof.Rows
def bltNames : List Str := ["len", "int", "str", "list", "tuple", "sorted", "all", "any", "min", "max", "range", "enumerate", "zip", "isinstance", "bool", "dict", "sum", "set"]
structure Okx (T : Tbl) (c : Nat → List Vx → Hs → VK2 → Prop) (cx : Cls2) (nm : Nm) (N : List Str) (X : Cx) : Prop where
  calm : X.calm = true
  hN : X.N = N
  nd : N.Nodup
  un : X.A.units + 65 < cLine
  blt : ∀ x ∈ bltNames, X.mg x = none
  lay : cx.lay = nm.lay
  wd : cx.w = X.w
  fn : ∀ f, nm.isF f = true → ∃ k fa fd ps np, FnOk X.prog X.w X.K X.mg X.base CX0 k fa fd ps (spOf X.K cx c f np) ∧ NumOk c f np ∧ Room k X.A ∧ X.mg (nm.fnm f) = some (.ref fa) ∧ PySem.W.keepIn X.K (.ref fa) = true ∧ Binds X.K fd ps []
  mt : ∀ f, nm.isM f = true → ∃ k fa fd ps np, Cls X.K (cx.adr (T.fcls f)) ∧ Meth X.K (cx.adr (T.fcls f)) (nm.mnm f) fa ∧ nm.mnm f ∉ cx.lay (T.fcls f) ∧ FnOk X.prog X.w X.K X.mg X.base CX0 k fa fd ps (spOf X.K cx c f np) ∧ NumOk c f np ∧ Room k X.A ∧ Binds X.K fd ps []
  mkc : ∀ ci, nm.isC ci = true → ∃ k fa fd ps np, Mk X.K (cx.adr ci) fa ∧ FnOk X.prog X.w X.K X.mg X.base CX0 k fa fd ps (spOf X.K cx c (T.cini ci) np) ∧ NumOk c (T.cini ci) np ∧ Room (k + 1) X.A ∧ X.mg (nm.cnm ci) = some (.ref (cx.adr ci)) ∧ Binds X.K fd ps []
  cl : ∀ ci, nm.isL ci = true → ClsOk X.K cx ci
  gl : ∀ k, nm.isG k = true → ∃ v u, X.mg (nm.gnm k) = some u ∧ RelV v u ∧ own (T.glob k) = false ∧ ∀ S H, Rel X.K cx S H → RepX X.K H S (T.glob k) v
section
variable {T : Tbl} {c : Nat → List Vx → Hs → VK2 → Prop} {cx : Cls2} {nm : Nm} {N : List Str} {X : Cx}
theorem Okx.blk (h : Okx T c cx nm N X) (s : Shared) (H : Hp) (scope : Scope) (env : Env) (fp : List Addr) : Okx T c cx nm N (X.blk s H scope env fp) := ⟨h.calm, h.hN, h.nd, h.un, h.blt, h.lay, h.wd, h.fn, h.mt, h.mkc, h.cl, h.gl⟩
theorem Okx.nox (h : Okx T c cx nm N X) : Okx T c cx nm N X.nox := ⟨h.calm, h.hN, h.nd, h.un, h.blt, h.lay, h.wd, h.fn, h.mt, h.mkc, h.cl, h.gl⟩
theorem Okx.b (h : Okx T c cx nm N X) {x : Str} (m : decide (x ∈ bltNames) = true) : X.mg x = none := h.blt x (of_decide_eq_true m)
theorem gl_of {sc : Scope} (hs : X.env.scope = sc) {x : Str} (h : glB sc x = true) : Gl X x := by
  unfold glB at h
  unfold Gl Env.kindOf
  rw [hs]
  split at h
  · assumption
  · cases h
theorem vis_of {sc : Scope} (hs : X.env.scope = sc) {x : Str} (h : visB sc x = true) : Vis X.env.scope x := by
  unfold visB at h
  unfold Vis
  rw [hs]
  split at h
  · exact .inl (by assumption)
  · exact .inr (.inl (by assumption))
  · exact .inr (.inr (by assumption))
  · cases h
theorem loc_of {sc : Scope} {x : Str} (h : locB sc x = true) : sc.names.lookup x = some .local := by
  unfold locB at h
  split at h
  · assumption
  · cases h
theorem star_of {e : Expr} (h : notStar e = true) (es : List Expr) (env : Env) : starEach (e :: es) env = (false, eval e env) :: starEach es env := by
  cases e <;> first | rfl | cases h
theorem stars_of {es : List Expr} (h : noStars es = true) (env : Env) (pos : Pos) : (backTo pos (starEach es env)).any (·.1) = false ∧ (backTo pos (starEach es env)).all (fun x => !x.1) = true := by
  unfold noStars at h
  rw [Bool.and_eq_true] at h
  replace h := h.1
  induction es with
  | nil => exact ⟨rfl, rfl⟩
  | cons e es ih =>
    simp only [List.all_cons, Bool.and_eq_true] at h
    obtain ⟨i1, i2⟩ := ih h.2
    rw [star_of h.1]
    unfold backTo at i1 i2 ⊢
    simp only [List.map_cons, List.any_cons, List.all_cons]
    exact ⟨by simpa using i1, by simpa using i2⟩
theorem stars_tl {e : Expr} {es : List Expr} (h : noStars (e :: es) = true) : notStar e = true ∧ noStars es = true := by
  unfold noStars at h ⊢
  simp only [List.all_cons, Bool.and_eq_true, decide_eq_true_eq, List.length_cons] at h ⊢
  exact ⟨h.1.1, h.1.2, by omega⟩
theorem mark_of {op : CmpOp} {e : Expr} (h : noMark e = true) : behindInMarks op e = false := by
  cases e <;> first | rfl | cases h
theorem base_of {o : Expr} (h : noSup o = true) (m : Str) : attributeBase o m X.env (eval o X.env) = eval o X.env := by
  unfold attributeBase
  split
  · cases h
  · rfl
theorem plain_of {e : Expr} (h : plainI e = true) : PlainIx e := by
  intro o i
  cases e <;> first | rfl | cases h
theorem set_of {e : Expr} (h : noSet e = true) : ∀ x, foldedSetIterable e X.env x = pure x := by
  intro x
  cases e <;> first | rfl | cases h
theorem val_of {e : Expr} (h : valF e = true) : ∀ whole, isTrue e X.env whole = (do let v ← whole; standAt e.pos; holding [v] (truthy v)) := by
  intro w
  cases e <;> first | rfl | cases h
theorem meth_of {o : Expr} {m : Str} {apos pos : Pos} {es : List Expr} (h : noSup o = true) (hl : atL apos pos = true) (hs : noStars es = true) :
    eval (.Call (.Attribute o m apos) es [] pos) X.env = (do
      let ov ← eval o X.env
      standAt apos.atName
      let (f, first) ← holding [ov] (getMethod ov m (do return (← importBound o X.env).getD true))
      callWith pos f first (backTo pos (starEach es X.env)) (backToKw pos (keywordEach [] X.env))) := by
  have hf : methodCallForm (es.length + ([] : List Keyword).length) (backTo pos (starEach es X.env)) (backToKw pos (keywordEach [] X.env)) = true := by
    unfold methodCallForm
    rw [(stars_of hs X.env pos).2]
    unfold noStars at hs
    simp only [Bool.and_eq_true, decide_eq_true_eq] at hs
    show (true && true && decide (es.length + 0 + 0 < 30)) = true
    simp; omega
  show (do
    let ov ← attributeBase o m X.env (eval o X.env)
    standAt apos.atName
    methodCall o m apos pos X.env ov (es.length + ([] : List Keyword).length) (backTo pos (starEach es X.env)) (backToKw pos (keywordEach [] X.env))) = _
  rw [base_of h]
  unfold methodCall calleeOf methodCallPos
  rw [hf]
  have hl' : (apos.endLine == pos.line) = true := hl
  simp only [hl', Bool.not_true, Bool.false_or, if_true, pure_bind]
variable (hc : CalMono c)
include hc
/-- what the matcher of expressions tells -/
def OutE (T : Tbl) (c : Nat → List Vx → Hs → VK2 → Prop) (cx : Cls2) (X : Cx) (r : R) (tt : Bool) (e : Expr) : Prop :=
  (tt = false → PE X e (liftE X.K cx (wpE T c r))) ∧ (tt = true → PT X e (liftT X.K cx (wpE T c r)) ∧ ((∃ op vs p, e = .BoolOp op vs p) → PW X e (liftT X.K cx (wpE T c r))))
theorem out_val {r : R} {tt : Bool} {e : Expr} (h : PE X e (liftE X.K cx (wpE T c r))) (hv : valF e = true) : OutE T c cx X r tt e :=
  ⟨fun _ => h, fun _ => ⟨tst_val hc h (val_of hv), fun ⟨op, vs, p, e⟩ => by subst e; cases hv⟩⟩
omit hc in
theorem out_ff {r : R} {tt : Bool} {e : Expr} (h : PE X e (liftE X.K cx (wpE T c r))) (ht : (!tt) = true) : OutE T c cx X r tt e := ⟨fun _ => h, fun z => by subst z; cases ht⟩
omit hc in
theorem out_tst {r : R} {tt : Bool} {e : Expr} (h : PE X e (liftE X.K cx (wpE T c r))) (h2 : PT X e (liftT X.K cx (wpE T c r))) (hb : ∀ op vs p, e ≠ .BoolOp op vs p) : OutE T c cx X r tt e := ⟨fun _ => h, fun z => ⟨h2, fun ⟨op, vs, p, e⟩ => (hb _ _ _ e).elim⟩⟩
def ClmE (T : Tbl) (c : Nat → List Vx → Hs → VK2 → Prop) (cx : Cls2) (nm : Nm) (N : List Str) (r : R) : Prop := ∀ X, Okx T c cx nm N X → ∀ tt sc e, X.env.scope = sc → mE nm N r tt sc e = true → OutE T c cx X r tt e
def ClmA (T : Tbl) (c : Nat → List Vx → Hs → VK2 → Prop) (cx : Cls2) (nm : Nm) (N : List Str) (r : R) : Prop := ∀ X, Okx T c cx nm N X → ∀ sc es, X.env.scope = sc → mA nm N r sc es = true → PA X es (liftA X.K cx (wpE T c r))
def ClmI (T : Tbl) (c : Nat → List Vx → Hs → VK2 → Prop) (cx : Cls2) (nm : Nm) (N : List Str) (r : R) : Prop := ∀ X, Okx T c cx nm N X → ∀ tp sc e, X.env.scope = sc → mI nm N r tp sc e = true → ∀ tg, (tp = true → isTupE tg = true) → PI X tg e (liftI X.K cx r (wpI T c r))
def ClmS (T : Tbl) (c : Nat → List Vx → Hs → VK2 → Prop) (cx : Cls2) (nm : Nm) (N : List Str) (r : R) : Prop := ∀ X, Okx T c cx nm N X → ∀ sc e, X.env.scope = sc → mS nm N r sc e = true → PE X e (liftSrc X.K cx r (wpI T c r))
omit hc in
theorem dbg_of {x : Str} (h : noDbg x = true) : (x == ("__debug__" : Str)) = false ∧ (x == ("__classdict__" : Str)) = false := by
  unfold noDbg at h
  simp only [Bool.and_eq_true, Bool.not_eq_true'] at h
  exact h
omit hc in
theorem gOk_of {sc : Scope} (hs : X.env.scope = sc) {x : Str} (h : gOk sc x = true) : Gl X x ∧ (x == ("__debug__" : Str)) = false := by
  unfold gOk at h
  simp only [Bool.and_eq_true] at h
  exact ⟨gl_of hs h.1, (dbg_of h.2).1⟩
omit hc in
theorem vOk_of (h : Okx T c cx nm N X) {sc : Scope} (hs : X.env.scope = sc) {i : Nat} {x : Str} (m : vOk N sc i x = true) : X.N[i]? = some x ∧ Vis X.env.scope x ∧ (x == ("__debug__" : Str)) = false ∧ (x == ("__classdict__" : Str)) = false := by
  unfold vOk at m
  simp only [Bool.and_eq_true, decide_eq_true_eq] at m
  exact ⟨by rw [h.hN]; exact m.1.1, vis_of hs m.1.2, (dbg_of m.2).1, (dbg_of m.2).2⟩
theorem clm_v (i : Nat) : ClmE T c cx nm N (.v i) := fun X h tt sc e hs m => by
  unfold mE at m
  split at m
  · obtain ⟨h1, h2, h3, h4⟩ := vOk_of h hs m
    exact out_val hc (snd_v hc h1 h2 h3 h4) rfl
  · cases m
theorem clm_i (n : Int) : ClmE T c cx nm N (.i n) := fun X h tt sc e hs m => by
  unfold mE at m
  split at m
  · simp only [Bool.and_eq_true, decide_eq_true_eq] at m
    obtain ⟨rfl, m⟩ := m
    exact out_ff (snd_i hc) m
  · cases m
theorem clm_s (n : List Nat) : ClmE T c cx nm N (.s n) := fun X h tt sc e hs m => by
  unfold mE at m
  split at m
  · simp only [Bool.and_eq_true, decide_eq_true_eq] at m
    exact out_ff (snd_s hc m.1) m.2
  · cases m
theorem clm_b (n : Bool) : ClmE T c cx nm N (.b n) := fun X h tt sc e hs m => by
  unfold mE at m
  split at m
  · simp only [decide_eq_true_eq] at m
    subst m
    exact out_val hc (snd_b hc) rfl
  · cases m
theorem clm_n : ClmE T c cx nm N .n := fun X h tt sc e hs m => by
  unfold mE at m
  split at m
  · exact out_ff (snd_n hc) m
  · cases m
theorem clm_g (k : Nat) : ClmE T c cx nm N (.g k) := fun X h tt sc e hs m => by
  unfold mE at m
  split at m
  · simp only [Bool.and_eq_true, decide_eq_true_eq] at m
    obtain ⟨⟨rfl, m⟩, mg⟩ := m
    obtain ⟨g1, g2⟩ := gOk_of hs m
    obtain ⟨v, u, hm, rv, ho, rx⟩ := h.gl k mg
    exact out_val hc (peImp (pe_glob g1 hm rv g2) fun σ H Q ⟨S, σ2, hr, rs, y, e', q⟩ => by cases e'; exact fin q hr (rx S H hr) ho) rfl
  · cases m
omit hc in
theorem o1_call {o : O1} (hb : o1B o = true) (h : Okx T c cx nm N X) {x : Expr} {p pos : Pos} (hg : Gl X (o1N o)) (hst : notStar x = true) : ∀ t : TA, PA X [x] t → PE X (.Call (.Name (o1N o) p) [x] [] pos) (tCB (c1of X.K cx o) t) := fun t ht => by
  have e1 := star_of hst [] X.env
  cases o with
  | neg => cases hb
  | isi t => cases hb
  | len => exact pe_callB call1_len hg (h.b (by decide +kernel)) boot_len ht (he := e1) (hpl := rfl)
  | dict => exact pe_callTy call1_dict hg (h.b (by decide +kernel)) PyProof.Rows.boot_dict ht (he := e1) (hpl := rfl)
  | dictP => exact pe_callTy (call1_dictP h.calm) hg (h.b (by decide +kernel)) PyProof.Rows.boot_dict ht (he := e1) (hpl := rfl)
  | sorted => exact pe_callB (call1_sorted h.calm) hg (h.b (by decide +kernel)) boot_sorted ht (he := e1) (hpl := rfl)
  | sortedP => exact pe_callB call1_sortedP hg (h.b (by decide +kernel)) boot_sorted ht (he := e1) (hpl := rfl)
  | sortedN => exact pe_callB call1_sortedN hg (h.b (by decide +kernel)) boot_sorted ht (he := e1) (hpl := rfl)
  | sortedDn => exact pe_callB (call1_sortedDn h.calm h.wd) hg (h.b (by decide +kernel)) boot_sorted ht (he := e1) (hpl := rfl)
  | listK => exact pe_callTy (call1_listK h.calm) hg (h.b (by decide +kernel)) PyProof.Rows.boot_list ht (he := e1) (hpl := rfl)
  | listDn => exact pe_callTy (call1_listDn h.calm h.wd) hg (h.b (by decide +kernel)) PyProof.Rows.boot_list ht (he := e1) (hpl := rfl)
  | lenDn => exact pe_callB (call1_lenDn h.wd) hg (h.b (by decide +kernel)) boot_len ht (he := e1) (hpl := rfl)
  | sum => exact pe_callB (call1_sum h.calm) hg (h.b (by decide +kernel)) PyProof.Rows.boot_sum ht (he := e1) (hpl := rfl)
  | maxl => exact pe_callB (call1_max h.calm) hg (h.b (by decide +kernel)) PyProof.Rows.boot_max ht (he := e1) (hpl := rfl)
  | minl => exact pe_callB (call1_min h.calm) hg (h.b (by decide +kernel)) PyProof.Rows.boot_min ht (he := e1) (hpl := rfl)
  | all => exact pe_callB (call1_all h.calm) hg (h.b (by decide +kernel)) boot_all ht (he := e1) (hpl := rfl)
  | any => exact pe_callB (call1_any h.calm) hg (h.b (by decide +kernel)) boot_any ht (he := e1) (hpl := rfl)
  | int => exact pe_callTy call1_int hg (h.b (by decide +kernel)) PyProof.Rows.boot_int ht (he := e1) (hpl := rfl)
  | str => exact pe_callTy call1_str hg (h.b (by decide +kernel)) PyProof.Rows.boot_str ht (he := e1) (hpl := rfl)
  | list => exact pe_callTy call1_list hg (h.b (by decide +kernel)) PyProof.Rows.boot_list ht (he := e1) (hpl := rfl)
  | tuple => exact pe_callTy call1_tuple hg (h.b (by decide +kernel)) PyProof.Rows.boot_tuple ht (he := e1) (hpl := rfl)
theorem bool_one (t : Ty) : (tyN t) ∈ bltNames := by cases t <;> decide +kernel
omit hc in
theorem ty_boot (t : Ty) : bootBuiltins (tyN t) = some (.type t.nm) := by cases t <;> decide +kernel
omit hc in
theorem ty_name (t : Ty) : tyN t ≠ "__name__" := by cases t <;> decide +kernel
theorem clm_o1 (o : O1) {a : R} (ia : ClmE T c cx nm N a) : ClmE T c cx nm N (.o1 o a) := fun X h tt sc e hs m => by
  unfold mE at m
  split at m
  · simp only [Bool.and_eq_true, decide_eq_true_eq] at m
    obtain ⟨⟨rfl, m⟩, ht⟩ := m
    exact out_ff (snd_neg hc ((ia X h false sc _ hs m).1 rfl)) ht
  · simp only [Bool.and_eq_true, decide_eq_true_eq] at m
    obtain ⟨⟨⟨⟨hb, rfl⟩, hg⟩, hst⟩, m⟩ := m
    exact out_val hc (snd_call1 hc (o1_call hb h (gOk_of hs hg).1 hst) (star_of hst [] X.env) ((ia X h false sc _ hs m).1 rfl)) rfl
  · split at m
    · rename_i ty
      simp only [Bool.and_eq_true, decide_eq_true_eq] at m
      obtain ⟨⟨⟨⟨⟨rfl, hg⟩, rfl⟩, hg2⟩, hst⟩, m⟩ := m
      refine out_val hc (snd_isi hc (t := ty) (fun t ht => pe_callB (isi_ok ty) (gOk_of hs hg).1 (h.b (by decide +kernel)) PyProof.Rows.boot_isinstance ht (he := star_of hst _ X.env) (hpl := rfl)) (star_of hst _ X.env) rfl ((ia X h false sc _ hs m).1 rfl) ?_) rfl
      exact pe_bltn (gOk_of hs hg2).1 (h.blt _ (bool_one hc ty)) (ty_boot ty) rfl (ty_name ty) (gOk_of hs hg2).2
    · cases m
  · cases m
end
end DL

/-! DL15b: the matcher is sound (expressions, further). -/
namespace DL
open PySem L2 PySem.Spec PyProof.Rows
section
variable {T : Tbl} {c : Nat → List Vx → Hs → VK2 → Prop} {cx : Cls2} {nm : Nm} {N : List Str} {X : Cx}
variable (hc : CalMono c)
include hc
omit hc in
theorem bin_of {o : O2} {op : Operator} (h : binO o op = true) : OpR X (binaryOp op) (r2of X.K cx (op2D o)) := by
  unfold binO at h
  split at h
  · exact op2_add
  · exact op2_sub
  · exact op2_mul
  · exact op2_fdiv
  · exact op2_mod
  · exact op2_pow
  · cases h
omit hc in
theorem cmp_of (hu : X.A.units + 65 < cLine) (hw : cx.w = X.w) {o : O2} {op : CmpOp} (h : cmpO o op = true) : OpR X (compareOp op) (r2of X.K cx (op2D o)) := by
  have h1 : X.A.units + 64 < cLine := by omega
  unfold cmpO at h
  split at h
  · exact op2_eq h1
  · exact op2_ne h1
  · exact op2_eqh h1
  · exact op2_neh h1
  · exact op2_lt
  · exact op2_le
  · exact op2_gt
  · exact op2_ge
  · exact op2_is
  · exact op2_isnt
  · exact op2_mem hu hw
  · exact op2_nmem hu hw
  · exact op2_memh hu
  · exact op2_nmemh hu
  · cases h
theorem clm_o2 (o : O2) {a b : R} (ia : ClmE T c cx nm N a) (ib : ClmE T c cx nm N b) : ClmE T c cx nm N (.o2 o a b) := fun X h tt sc e hs m => by
  unfold mE at m
  split at m
  · simp only [Bool.and_eq_true, decide_eq_true_eq] at m
    obtain ⟨⟨⟨ho, m1⟩, m2⟩, ht⟩ := m
    exact out_ff (snd_bin hc (bin_of ho) ((ia X h false sc _ hs m1).1 rfl) ((ib X h false sc _ hs m2).1 rfl)) ht
  · simp only [Bool.and_eq_true, decide_eq_true_eq] at m
    obtain ⟨⟨⟨ho, hk⟩, m1⟩, m2⟩ := m
    have p1 := (ia X h false sc _ hs m1).1 rfl
    have p2 := (ib X h false sc _ hs m2).1 rfl
    exact out_tst (snd_cmp hc (cmp_of h.un h.wd ho) (mark_of hk) p1 p2) (tst_cmp hc (cmp_of h.un h.wd ho) (mark_of hk) p1 p2) (fun _ _ _ e => by cases e)
  · simp only [Bool.and_eq_true, decide_eq_true_eq] at m
    obtain ⟨⟨⟨rfl, hp⟩, m1⟩, m2⟩ := m
    exact out_val hc (snd_ix hc (ix_ok h.un h.wd) (plain_of hp) ((ia X h false sc _ hs m1).1 rfl) ((ib X h false sc _ hs m2).1 rfl)) rfl
  · simp only [Bool.and_eq_true, Bool.or_eq_true, decide_eq_true_eq] at m
    obtain ⟨⟨⟨⟨⟨ho, hg⟩, s1⟩, s2⟩, m1⟩, m2⟩ := m
    have p1 := (ia X h false sc _ hs m1).1 rfl
    have p2 := (ib X h false sc _ hs m2).1 rfl
    rcases ho with ⟨rfl, rfl⟩ | ⟨rfl, rfl⟩
    · exact out_val hc (snd_call2 hc (fun t ht => pe_callB (call2_min h.calm) (gOk_of hs hg).1 (h.b (by decide +kernel)) PyProof.Rows.boot_min ht (he := star_of s1 _ X.env) (hpl := by rw [star_of s2]; rfl)) (star_of s1 _ X.env) (star_of s2 [] X.env) p1 p2) rfl
    · exact out_val hc (snd_call2 hc (fun t ht => pe_callB (call2_max h.calm) (gOk_of hs hg).1 (h.b (by decide +kernel)) PyProof.Rows.boot_max ht (he := star_of s1 _ X.env) (hpl := by rw [star_of s2]; rfl)) (star_of s1 _ X.env) (star_of s2 [] X.env) p1 p2) rfl
  · cases m
theorem clm_tup {as : R} (ia : ClmA T c cx nm N as) : ClmE T c cx nm N (.tup as) := fun X h tt sc e hs m => by
  unfold mE at m
  split at m
  · simp only [Bool.and_eq_true] at m
    exact out_ff (snd_tup hc (ia X h sc _ hs m.1)) m.2
  · cases m
theorem clm_lst {as : R} (ia : ClmA T c cx nm N as) : ClmE T c cx nm N (.lst as) := fun X h tt sc e hs m => by
  unfold mE at m
  split at m
  · simp only [Bool.and_eq_true] at m
    exact out_ff (snd_lst hc (ia X h sc _ hs m.1)) m.2
  · cases m
theorem clm_dct : ClmE T c cx nm N .dct := fun X h tt sc e hs m => by
  unfold mE at m
  split at m
  · exact out_ff (snd_dct hc) m
  · cases m
theorem clm_one {a : R} (ia : ClmE T c cx nm N a) : ClmE T c cx nm N (.one a) := fun X h tt sc e hs m => by
  unfold mE at m
  split at m
  · have o := ia X h tt sc _ hs m
    refine ⟨fun z => ?_, fun z => ?_⟩
    · exact snd_one hc (o.1 z)
    · exact ⟨(tst_one hc (o.2 z).1).pt, fun _ => tst_one hc (o.2 z).1⟩
  · cases m
  · cases m
theorem clm_and {a r : R} (ia : ClmE T c cx nm N a) (ir : ClmE T c cx nm N r) : ClmE T c cx nm N (.and a r) := fun X h tt sc e hs m => by
  unfold mE at m
  split at m
  · simp only [Bool.and_eq_true] at m
    have o := ia X h tt sc _ hs m.1
    have o2 := ir X h tt sc _ hs m.2
    refine ⟨fun z => snd_and hc (o.1 z) (o2.1 z), fun z => ?_⟩
    have q := tst_and hc (o.2 z).1 ((o2.2 z).2 ⟨_, _, _, rfl⟩)
    exact ⟨q.pt, fun _ => q⟩
  · cases m
theorem clm_or {a r : R} (ia : ClmE T c cx nm N a) (ir : ClmE T c cx nm N r) : ClmE T c cx nm N (.or a r) := fun X h tt sc e hs m => by
  unfold mE at m
  split at m
  · simp only [Bool.and_eq_true] at m
    have o := ia X h tt sc _ hs m.1
    have o2 := ir X h tt sc _ hs m.2
    refine ⟨fun z => snd_or hc (o.1 z) (o2.1 z), fun z => ?_⟩
    have q := tst_or hc (o.2 z).1 ((o2.2 z).2 ⟨_, _, _, rfl⟩)
    exact ⟨q.pt, fun _ => q⟩
  · cases m
theorem clm_not {a : R} (ia : ClmE T c cx nm N a) : ClmE T c cx nm N (.not a) := fun X h tt sc e hs m => by
  unfold mE at m
  split at m
  · have o := ia X h tt sc _ hs m
    exact ⟨fun z => snd_not hc (o.1 z), fun z => ⟨tst_not hc (o.2 z).1, fun ⟨_, _, _, e⟩ => by cases e⟩⟩
  · cases m
theorem clm_ife {k a b : R} (ik : ClmE T c cx nm N k) (ia : ClmE T c cx nm N a) (ib : ClmE T c cx nm N b) : ClmE T c cx nm N (.ife k a b) := fun X h tt sc e hs m => by
  unfold mE at m
  split at m
  · simp only [Bool.and_eq_true] at m
    obtain ⟨⟨⟨m1, m2⟩, m3⟩, ht⟩ := m
    exact out_ff (snd_ife hc ((ik X h true sc _ hs m1).2 rfl).1 ((ia X h false sc _ hs m2).1 rfl) ((ib X h false sc _ hs m3).1 rfl)) ht
  · cases m
theorem clm_chain (o o' : O2) {a b k : R} (ia : ClmE T c cx nm N a) (ib : ClmE T c cx nm N b) (ik : ClmE T c cx nm N k) : ClmE T c cx nm N (.chain o o' a b k) := fun X h tt sc e hs m => by
  unfold mE at m
  split at m
  · simp only [Bool.and_eq_true] at m
    obtain ⟨⟨⟨⟨⟨⟨h1, h2⟩, n1⟩, n2⟩, m1⟩, m2⟩, m3⟩ := m
    have q := fun pos => snd_chain hc (pos := pos) (cmp_of h.un h.wd h1) (cmp_of h.un h.wd h2) ((ia X h false sc _ hs m1).1 rfl) ((ib X h false sc _ hs m2).1 rfl) ((ik X h false sc _ hs m3).1 rfl) (mark_of n1) (mark_of n2)
    exact out_tst (q _).1 (q _).2 (fun _ _ _ e => by cases e)
  · cases m
theorem part_of {lo : R} {l : Option Expr} {sc : Scope} (m : (match l with
        | none => (match lo with | .n => true | _ => false)
        | some l => (match lo with | .n => false | _ => true) && mE nm N lo false sc l) = true) : ClmE T c cx nm N lo → Okx T c cx nm N X → X.env.scope = sc → PartOk X T c cx lo l := by
  intro il h hs
  split at m
  · split at m
    · exact part_n hc
    · cases m
  · simp only [Bool.and_eq_true] at m
    refine part_e hc (fun e => ?_) ((il X h false sc _ hs m.2).1 rfl)
    subst e
    cases m.1
theorem clm_slc {a lo hi : R} (ia : ClmE T c cx nm N a) (il : ClmE T c cx nm N lo) (ih : ClmE T c cx nm N hi) : ClmE T c cx nm N (.slc a lo hi) := fun X h tt sc e hs m => by
  unfold mE at m
  split at m
  · rw [Bool.and_eq_true, Bool.and_eq_true, Bool.and_eq_true] at m
    obtain ⟨⟨⟨ht, m1⟩, m2⟩, m3⟩ := m
    exact out_ff (snd_slc hc ((ia X h false sc _ hs m1).1 rfl) (part_of hc m2 il h hs) (part_of hc m3 ih h hs)) ht
  · cases m
theorem as_nil {as : R} (m : (match as with | .nil => true | _ => false) = true) : as = .nil := by
  split at m
  · rfl
  · cases m
end
end DL

/-! DL15b: the matcher is sound (expressions, further). -/
namespace DL
open PySem L2 PySem.Spec PyProof.Rows
section
variable {T : Tbl} {c : Nat → List Vx → Hs → VK2 → Prop} {cx : Cls2} {nm : Nm} {N : List Str} {X : Cx}
variable (hc : CalMono c)
include hc
theorem clm_call (f : Nat) {as : R} (ia : ClmA T c cx nm N as) : ClmE T c cx nm N (.call f as) := fun X h tt sc e hs m => by
  unfold mE at m
  split at m
  · rename_i es _
    simp only [Bool.and_eq_true, decide_eq_true_eq] at m
    obtain ⟨⟨⟨⟨⟨rfl, hg⟩, hf⟩, hst⟩, m⟩, mn⟩ := m
    obtain ⟨k, fa, fd, ps, np, F, hn, hr, hm, hk, hb⟩ := h.fn f hf
    have pa := ia X h sc _ hs m
    cases es with
    | nil => exact out_val hc (snd_call0 hc F hn hr (gOk_of hs hg).1 hm hk hb pa (gOk_of hs hg).2 (as_nil hc mn)) rfl
    | cons e es => exact out_val hc (snd_call hc F hn hr (gOk_of hs hg).1 hm hk hb pa (gOk_of hs hg).2 (star_of (stars_tl hst).1 _ _) (stars_of (stars_tl hst).2 _ _).1) rfl
  · cases m
theorem clm_meth (f : Nat) {o as : R} (io : ClmE T c cx nm N o) (ia : ClmA T c cx nm N as) : ClmE T c cx nm N (.meth f o as) := fun X h tt sc e hs m => by
  unfold mE at m
  split at m
  · rename_i es _
    simp only [Bool.and_eq_true, decide_eq_true_eq] at m
    obtain ⟨⟨⟨⟨⟨⟨⟨rfl, hf⟩, hsu⟩, hl⟩, hst⟩, m1⟩, m⟩, mn⟩ := m
    obtain ⟨k, fa, fd, ps, np, hcl, hmt, hno, F, hn, hr, hb⟩ := h.mt f hf
    have pa := ia X h sc _ hs m
    have po := (io X h false sc _ hs m1).1 rfl
    cases es with
    | nil =>
      have e := as_nil hc mn
      subst e
      exact out_val hc (snd_meth0 hc rfl rfl hcl hmt hno F hn hr hb po (meth_of hsu hl hst)) rfl
    | cons e es => exact out_val hc (snd_meth hc rfl rfl hcl hmt hno F hn hr hb po pa (star_of (stars_tl hst).1 _ _) (stars_of (stars_tl hst).2 _ _).1 (meth_of hsu hl hst)) rfl
  · cases m
theorem clm_make (ci : Nat) {as : R} (ia : ClmA T c cx nm N as) : ClmE T c cx nm N (.make ci as) := fun X h tt sc e hs m => by
  unfold mE at m
  split at m
  · simp only [Bool.and_eq_true, decide_eq_true_eq] at m
    obtain ⟨⟨⟨⟨⟨rfl, hg⟩, hf⟩, hst⟩, m⟩, ht⟩ := m
    obtain ⟨k, fa, fd, ps, np, M, F, hn, hr, hm, hb⟩ := h.mkc ci hf
    exact out_ff (snd_make hc rfl rfl M F hn hr (gOk_of hs hg).1 hm hb (ia X h sc _ hs m) (gOk_of hs hg).2 (star_of (stars_tl hst).1 _ _) (stars_of (stars_tl hst).2 _ _).1) ht
  · cases m
theorem clm_fld {o : R} (ci k : Nat) (io : ClmE T c cx nm N o) : ClmE T c cx nm N (.fld o ci k) := fun X h tt sc e hs m => by
  unfold mE at m
  split at m
  · simp only [Bool.and_eq_true, decide_eq_true_eq] at m
    obtain ⟨⟨⟨hf, hi⟩, hsu⟩, m⟩ := m
    exact out_val hc (snd_fld hc (h.cl ci hi) (by rw [h.lay]; exact hf) ((io X h false sc _ hs m).1 rfl) (base_of hsu _)) rfl
  · cases m
end
end DL

/-! DL15b: the matcher is sound (expressions, further). -/
namespace DL
open PySem L2 PySem.Spec PyProof.Rows
section
variable {T : Tbl} {c : Nat → List Vx → Hs → VK2 → Prop} {cx : Cls2} {nm : Nm} {N : List Str} {X : Cx}
variable (hc : CalMono c)
include hc
omit hc in
theorem few_of {es : List Expr} (hst : noStars es = true) (pos : Pos) : ((backTo pos (starEach es X.env)).all (fun x => !x.1) && (backToKw pos (keywordEach [] X.env)).all (fun x => x.1.isSome)
      && decide (es.length + ([] : List Keyword).length + (if ([] : List Keyword).isEmpty then 0 else 1) < 30)) = true := by
  rw [(stars_of hst X.env pos).2]
  unfold noStars at hst
  simp only [Bool.and_eq_true, decide_eq_true_eq] at hst
  show (true && true && decide (es.length + 0 + 0 < 30)) = true
  simp; omega
theorem clm_hm (mm : M) {o as : R} (io : ClmE T c cx nm N o) (ia : ClmA T c cx nm N as) : ClmE T c cx nm N (.hm mm o as) := fun X h tt sc e hs m => by
  unfold mE at m
  split at m
  · rename_i es _
    simp only [Bool.and_eq_true, decide_eq_true_eq] at m
    obtain ⟨⟨⟨⟨⟨⟨rfl, hsu⟩, hl⟩, hst⟩, m1⟩, ht⟩, m⟩ := m
    have po := (io X h false sc _ hs m1).1 rfl
    refine out_ff ?_ ht
    cases es with
    | nil =>
      simp only [Bool.and_eq_true] at m
      have e := as_nil hc m.2
      subst e
      cases mm with
      | pop => exact snd_hm0 hc (fun to p => pe_bm0 PySem.F.plainAttrs_list PySem.F.slot_list_pop PySem.F.type_list_pop mut_pop p (base_of hsu _) hl) po
      | clear => exact snd_hm0 hc (fun to p => pe_bm0 PySem.F.plainAttrs_list PySem.F.slot_list_clear PySem.F.type_list_clear mut_clear p (base_of hsu _) hl) po
      | _ => cases m.1
    | cons e es =>
      simp only [Bool.and_eq_true] at m
      have pa := ia X h sc _ hs m.2
      have s1 := star_of (stars_tl hst).1 es X.env
      cases mm with
      | append => exact snd_hm hc (fun to t p q => pe_bm PySem.F.plainAttrs_list PySem.F.slot_list_append PySem.F.type_list_append mut_append p q (base_of hsu _) (few_of hst _) hl s1 (stars_of (stars_tl hst).2 _ _).1) po pa
      | popAt => exact snd_hm hc (fun to t p q => pe_bm PySem.F.plainAttrs_list PySem.F.slot_list_pop PySem.F.type_list_pop mut_popAt p q (base_of hsu _) (few_of hst _) hl s1 (stars_of (stars_tl hst).2 _ _).1) po pa
      | insert => exact snd_hm hc (fun to t p q => pe_bm PySem.F.plainAttrs_list PySem.F.slot_list_insert PySem.F.type_list_insert mut_insert p q (base_of hsu _) (few_of hst _) hl s1 (stars_of (stars_tl hst).2 _ _).1) po pa
      | extend => exact snd_hm hc (fun to t p q => pe_bm PySem.F.plainAttrs_list PySem.F.slot_list_extend PySem.F.type_list_extend mut_extend p q (base_of hsu _) (few_of hst _) hl s1 (stars_of (stars_tl hst).2 _ _).1) po pa
      | _ => cases m.1
  · cases m
omit hc in
theorem lc_of {c : Bool} {sc : Scope} {x : Str} (hs : X.env.scope = sc) (hf : c = true → ∀ x, X.fn x = true) (m : lcB c sc x = true) : Loc X.env.scope x ∧ (X.fn x = true ∨ X.env.scope.names.lookup x = some .local) := by
  unfold lcB at m
  rw [Bool.or_eq_true, Bool.and_eq_true] at m
  rcases m with m | ⟨m1, m2⟩
  · have hl := loc_of m
    exact ⟨.inl (by rw [hs]; exact hl), .inr (by rw [hs]; exact hl)⟩
  · refine ⟨.inr ?_, .inl (hf m1 x)⟩
    rw [hs]
    unfold celB at m2
    split at m2
    · assumption
    · cases m2
omit hc in
theorem tgN_of {c : Bool} (hf : c = true → ∀ x, X.fn x = true) (hcalm : X.calm = true) (hN : X.N.Nodup) {sc : Scope} (hs : X.env.scope = sc) : ∀ (is : List Nat) (es : List Expr), tgB.go X.N c sc is es = true → PGs X es (gNames is) ∧ (assignEach es X.env).length = is.length ∧ (assignEach es X.env).findIdx? (·.1) = none
  | [], [], _ => ⟨pgs_nil, rfl, rfl⟩
  | [], e :: es, m => by cases m
  | i :: is, [], m => by cases m
  | i :: is, e :: es, m => by
    unfold tgB.go at m
    split at m
    · rename_i h1 h2; cases h1
    · rename_i i' is' x p es' h1 h2
      cases h1; cases h2
      simp only [Bool.and_eq_true, decide_eq_true_eq] at m
      obtain ⟨h1, h2, h3⟩ := tgN_of hf hcalm hN hs is _ m.2
      have hl := lc_of hs hf m.1.2
      have g : PG X (.Name x p) (gName i) := pg_name hN m.1.1 hl.1 hl.2
      refine ⟨pgs_cons g h1 rfl, ?_, ?_⟩
      · show (((false, assign (.Name x p) X.env) :: assignEach _ X.env) : List (Bool × (Value → Sem Unit))).length = _
        simp [h2]
      · show (((false, assign (.Name x p) X.env) :: assignEach _ X.env) : List (Bool × (Value → Sem Unit))).findIdx? (·.1) = none
        rw [List.findIdx?_cons]
        simp [h3]
    · cases m
omit hc in
theorem tg_of {c : Bool} (hf : c = true → ∀ x, X.fn x = true) (hcalm : X.calm = true) (hN : X.N.Nodup) {sc : Scope} (hs : X.env.scope = sc) {tg : Tg} {e : Expr} (m : tgB X.N c sc tg e = true) : PG X e (tgG X.K tg) := by
  unfold tgB at m
  split at m
  · simp only [Bool.and_eq_true, decide_eq_true_eq] at m
    have hl := lc_of hs hf m.2
    exact pg_name hN m.1 hl.1 hl.2
  · obtain ⟨h1, h2, h3⟩ := tgN_of hf hcalm hN hs _ _ m
    exact pg_tup hcalm h1 h2 h3
  · cases m
omit hc in
theorem ownN_snd (N : List Str) (is : List Nat) : (ownN N is).map (·.2) = is := by
  unfold ownN
  induction is with
  | nil => rfl
  | cons i is ih => simp only [List.map_cons]; rw [ih]
theorem clm_comp (tg : Tg) {elt it tst : R} (ie : ClmE T c cx nm N elt) (ii : ClmI T c cx nm N it) (it' : ClmE T c cx nm N tst) : ClmE T c cx nm N (.comp tg elt it tst) := fun X h tt sc e hs m => by
  unfold mE at m
  split at m
  · rename_i eelt etg eit ifs scope _
    rw [Bool.and_eq_true, Bool.and_eq_true, Bool.and_eq_true, Bool.and_eq_true, Bool.and_eq_true, Bool.and_eq_true] at m
    obtain ⟨⟨⟨⟨⟨⟨ht, mt⟩, mi⟩, mb⟩, mn⟩, me⟩, mf⟩ := m
    have hN := h.hN
    subst hN
    refine out_ff (snd_comp hc h.calm h.nd (ii X h (isTupE etg) sc _ hs mi etg fun z => z) (blkOk_by (by rw [hs]; exact mb)) (ownN_snd _ _) (fun s H C cl fp => ?_) (fun s H C cl fp => ?_) (fun s H C cl fp => ?_) (set_of mn)) ht
    · exact tg_of (X := X.blk s H scope (compEnvC scope cl C X.env) fp) (fun z => by cases z) h.calm h.nd (show relS scope X.env.scope = relS scope sc by rw [hs]) mt
    · split at mf
      · split at mf
        · exact pts_tt hc
        · cases mf
      · exact pts_one ((it' _ (h.blk s H scope (compEnvC scope cl C X.env) fp) true _ _ (show relS scope X.env.scope = relS scope sc by rw [hs]) mf).2 rfl).1
      · cases mf
    · exact (ie _ (h.blk s H scope (compEnvC scope cl C X.env) fp) false _ _ (show relS scope X.env.scope = relS scope sc by rw [hs]) me).1 rfl
  · cases m
theorem clm_nil : ClmA T c cx nm N .nil := fun X h sc es hs m => by
  unfold mA at m
  split at m
  · exact snd_nil hc
  · cases m
theorem clm_cons {a r : R} (ia : ClmE T c cx nm N a) (ir : ClmA T c cx nm N r) : ClmA T c cx nm N (.cons a r) := fun X h sc es hs m => by
  unfold mA at m
  split at m
  · simp only [Bool.and_eq_true] at m
    exact snd_cons hc ((ia X h false sc _ hs m.1.2).1 rfl) (ir X h sc _ hs m.2) (star_of m.1.1 _ _)
  · cases m
theorem clm_consb {a r : R} (ia : ClmE T c cx nm N a) (ir : ClmA T c cx nm N r) : ClmA T c cx nm N (.consb a r) := fun X h sc es hs m => by
  unfold mA at m
  split at m
  · simp only [Bool.and_eq_true] at m
    exact snd_consb hc ((ia X h false sc _ hs m.1.2).1 rfl) (ir X h sc _ hs m.2) (star_of m.1.1 _ _)
  · cases m
theorem clm_itvS (i : Nat) : ClmS T c cx nm N (.itv i) := fun X h sc e hs m => by
  unfold mS at m
  split at m
  · obtain ⟨h1, h2, h3, h4⟩ := vOk_of h hs m
    exact src_v hc h1 h2 h3 h4
  · cases m
theorem clm_iteS {a : R} (ia : ClmE T c cx nm N a) : ClmS T c cx nm N (.ite a) := fun X h sc e hs m => by
  unfold mS at m
  exact src_e hc ((ia X h false sc e hs m).1 rfl)
theorem clm_itvI (i : Nat) : ClmI T c cx nm N (.itv i) := fun X h tp sc e hs m tg ht => by
  unfold mI at m
  split at m
  · obtain ⟨h1, h2, h3, h4⟩ := vOk_of h hs m
    exact walk_src hc (src_v hc h1 h2 h3 h4)
  · cases m
theorem clm_iteI {a : R} (ia : ClmE T c cx nm N a) : ClmI T c cx nm N (.ite a) := fun X h tp sc e hs m tg ht => by
  unfold mI at m
  exact walk_src hc (src_e hc ((ia X h false sc e hs m).1 rfl))
theorem clm_rng {a : R} (ia : ClmE T c cx nm N a) : ClmI T c cx nm N (.rng a) := fun X h tp sc e hs m tg ht => by
  unfold mI at m
  split at m
  · simp only [Bool.and_eq_true, decide_eq_true_eq] at m
    obtain ⟨⟨⟨rfl, hg⟩, hst⟩, m⟩ := m
    exact walk_rng hc (gOk_of hs hg).1 (h.b (by decide +kernel)) (star_of hst [] _) ((ia X h false sc _ hs m).1 rfl)
  · cases m
theorem clm_rng2 {a b : R} (ia : ClmE T c cx nm N a) (ib : ClmE T c cx nm N b) : ClmI T c cx nm N (.rng2 a b) := fun X h tp sc e hs m tg ht => by
  unfold mI at m
  split at m
  · simp only [Bool.and_eq_true, decide_eq_true_eq] at m
    obtain ⟨⟨⟨⟨⟨rfl, hg⟩, s1⟩, s2⟩, m1⟩, m2⟩ := m
    exact walk_rng2 hc (gOk_of hs hg).1 (h.b (by decide +kernel)) (by rw [star_of s1, star_of s2]; rfl) (star_of s2 [] _) ((ia X h false sc _ hs m1).1 rfl) ((ib X h false sc _ hs m2).1 rfl)
  · cases m
theorem clm_enu {a : R} (ia : ClmS T c cx nm N a) : ClmI T c cx nm N (.enu a) := fun X h tp sc e hs m tg ht => by
  unfold mI at m
  split at m
  · simp only [Bool.and_eq_true, decide_eq_true_eq] at m
    obtain ⟨⟨⟨⟨hp, rfl⟩, hg⟩, hst⟩, m⟩ := m
    have ht := ht hp
    unfold isTupE at ht
    split at ht
    · exact walk_enu hc (gOk_of hs hg).1 (h.b (by decide +kernel)) (star_of hst [] _) (ia X h sc _ hs m)
    · cases ht
  · cases m
theorem clm_enuk {a : R} (ia : ClmE T c cx nm N a) : ClmI T c cx nm N (.enuk a) := fun X h tp sc e hs m tg ht => by
  unfold mI at m
  split at m
  · simp only [Bool.and_eq_true, decide_eq_true_eq] at m
    obtain ⟨⟨⟨⟨hp, rfl⟩, hg⟩, hst⟩, m⟩ := m
    have ht := ht hp
    unfold isTupE at ht
    split at ht
    · exact walk_enuk hc (gOk_of hs hg).1 (h.b (by decide +kernel)) (star_of hst [] _) ((ia X h false sc _ hs m).1 rfl)
    · cases ht
  · cases m
theorem clm_zip {a b : R} (ia : ClmS T c cx nm N a) (ib : ClmS T c cx nm N b) : ClmI T c cx nm N (.zip a b) := fun X h tp sc e hs m tg ht => by
  unfold mI at m
  split at m
  · simp only [Bool.and_eq_true, decide_eq_true_eq] at m
    obtain ⟨⟨⟨⟨⟨⟨hp, rfl⟩, hg⟩, s1⟩, s2⟩, m1⟩, m2⟩ := m
    have ht := ht hp
    unfold isTupE at ht
    split at ht
    · exact walk_zip hc (gOk_of hs hg).1 (h.b (by decide +kernel)) (star_of s1 _ _) (by rw [star_of s2]; rfl) (star_of s2 [] _) (ia X h sc _ hs m1) (ib X h sc _ hs m2)
    · cases ht
  · cases m
def ClmP (T : Tbl) (c : Nat → List Vx → Hs → VK2 → Prop) (cx : Cls2) (nm : Nm) (N : List Str) (r : R) : Prop := ∀ X, Okx T c cx nm N X → ∀ sc ks vs, X.env.scope = sc → mPr nm N r sc ks vs = true → (∀ pos, PPs X pos ks vs (prTrs X.K cx T c r)) ∧ isPr r = true ∧ ks.all (·.isSome) = true ∧ ks.length = vs.length
theorem clm_nilP : ClmP T c cx nm N .nil := fun X h sc ks vs hs m => by
  unfold mPr at m
  split at m
  · exact ⟨fun pos => pps_nil, rfl, rfl, rfl⟩
  · cases m
theorem clm_pr {k v r : R} (ik : ClmE T c cx nm N k) (iv : ClmE T c cx nm N v) (ir : ClmP T c cx nm N r) : ClmP T c cx nm N (.pr k v r) := fun X h sc ks vs hs m => by
  unfold mPr at m
  split at m
  · simp only [Bool.and_eq_true] at m
    obtain ⟨h1, h2, h3, h4⟩ := ir X h sc _ _ hs m.2
    exact ⟨fun pos => pps_cons ((ik X h false sc _ hs m.1.1).1 rfl) ((iv X h false sc _ hs m.1.2).1 rfl) (h1 pos), h2, by simpa using h3, by simp [h4]⟩
  · cases m
theorem clm_dctp {ps : R} (ip : ClmP T c cx nm N ps) : ClmE T c cx nm N (.dctp ps) := fun X h tt sc e hs m => by
  unfold mE at m
  split at m
  · simp only [Bool.and_eq_true, decide_eq_true_eq] at m
    obtain ⟨⟨⟨ht, l1⟩, l2⟩, m⟩ := m
    obtain ⟨h1, h2, h3, h4⟩ := ip X h sc _ _ hs m
    exact out_ff (snd_dctp hc h2 (h1 _) h3 h4 (fun e => by rw [e] at l2; simp at l2) l1) ht
  · cases m
theorem clm_get1 {o k : R} (io : ClmE T c cx nm N o) (ik : ClmE T c cx nm N k) : ClmE T c cx nm N (.get1 o k) := fun X h tt sc e hs m => by
  unfold mE at m
  split at m
  · simp only [Bool.and_eq_true, decide_eq_true_eq] at m
    obtain ⟨⟨⟨⟨⟨rfl, hsu⟩, hl⟩, s1⟩, m1⟩, m2⟩ := m
    refine out_val hc (snd_get1 hc (by have := h.un; omega) ((io X h false sc _ hs m1).1 rfl) ((ik X h false sc _ hs m2).1 rfl) ⟨base_of hsu _, few_of (by unfold noStars; simp [s1]) _, hl, ?_⟩) rfl
    rw [star_of s1 [] X.env]
    rfl
  · cases m
theorem clm_dpop {o k : R} (io : ClmE T c cx nm N o) (ik : ClmE T c cx nm N k) : ClmE T c cx nm N (.dpop o k) := fun X h tt sc e hs m => by
  unfold mE at m
  split at m
  · simp only [Bool.and_eq_true, decide_eq_true_eq] at m
    obtain ⟨⟨⟨⟨⟨rfl, hsu⟩, hl⟩, s1⟩, m1⟩, m2⟩ := m
    refine out_val hc (snd_dpop hc ((io X h false sc _ hs m1).1 rfl) ((ik X h false sc _ hs m2).1 rfl) ⟨base_of hsu _, few_of (by unfold noStars; simp [s1]) _, hl, ?_⟩) rfl
    rw [star_of s1 [] X.env]
    rfl
  · cases m
theorem clm_get2 {o k d : R} (io : ClmE T c cx nm N o) (ik : ClmE T c cx nm N k) (id : ClmE T c cx nm N d) : ClmE T c cx nm N (.get2 o k d) := fun X h tt sc e hs m => by
  unfold mE at m
  split at m
  · simp only [Bool.and_eq_true, decide_eq_true_eq] at m
    obtain ⟨⟨⟨⟨⟨⟨⟨rfl, hsu⟩, hl⟩, s1⟩, s2⟩, m1⟩, m2⟩, m3⟩ := m
    refine out_val hc (snd_get2 hc (by have := h.un; omega) ((io X h false sc _ hs m1).1 rfl) ((ik X h false sc _ hs m2).1 rfl) ((id X h false sc _ hs m3).1 rfl) ⟨base_of hsu _, few_of (by unfold noStars; simp [s1, s2]) _, hl, ?_⟩) rfl
    rw [star_of s1 _ X.env, star_of s2 [] X.env]
    rfl
  · cases m
theorem clm_itk {a : R} (ia : ClmE T c cx nm N a) : ClmI T c cx nm N (.itk a) := fun X h tp sc e hs m tg ht => by
  unfold mI at m
  exact walk_itk hc ((ia X h false sc e hs m).1 rfl)
theorem clm_itms {a : R} (ia : ClmE T c cx nm N a) : ClmI T c cx nm N (.itms a) := fun X h tp sc e hs m tg ht => by
  unfold mI at m
  split at m
  · simp only [Bool.and_eq_true, decide_eq_true_eq] at m
    obtain ⟨⟨⟨⟨hp, rfl⟩, hsu⟩, hl⟩, m⟩ := m
    have ht := ht hp
    unfold isTupE at ht
    split at ht
    · exact walk_itms hc ((ia X h false sc _ hs m).1 rfl) (base_of hsu _) hl
    · cases ht
  · cases m
theorem clm_sIt {a : R} (ia : ClmE T c cx nm N a) : ClmE T c cx nm N (.sIt a) := fun X h tt sc e hs m => by
  unfold mE at m
  split at m
  · simp only [Bool.and_eq_true, decide_eq_true_eq] at m
    obtain ⟨⟨⟨⟨⟨⟨ht, rfl⟩, hg⟩, rfl⟩, hsu⟩, hl⟩, m⟩ := m
    exact out_ff (snd_sIt hc h.calm (gOk_of hs hg).1 (h.b (by decide +kernel)) ((ia X h false sc _ hs m).1 rfl) (base_of hsu _) hl) ht
  · cases m
theorem clm_rev {a : R} (ia : ClmE T c cx nm N a) : ClmE T c cx nm N (.rev a) := fun X h tt sc e hs m => by
  unfold mE at m
  split at m
  · simp only [Bool.and_eq_true] at m
    exact out_ff (snd_rev hc ((ia X h false sc _ hs m.2).1 rfl)) m.1
  · cases m
theorem clm_lrg {a : R} (ia : ClmE T c cx nm N a) : ClmE T c cx nm N (.lrg a) := fun X h tt sc e hs m => by
  unfold mE at m
  split at m
  · simp only [Bool.and_eq_true, decide_eq_true_eq] at m
    obtain ⟨⟨⟨⟨⟨⟨ht, rfl⟩, hg⟩, rfl⟩, hg2⟩, hst⟩, m⟩ := m
    exact out_ff (snd_lrg hc h.calm (gOk_of hs hg).1 (h.b (by decide +kernel)) (gOk_of hs hg2).1 (h.b (by decide +kernel)) ((ia X h false sc _ hs m).1 rfl) (star_of hst [] _)) ht
  · cases m
theorem clm_upper {a : R} (ia : ClmE T c cx nm N a) : ClmE T c cx nm N (.upper a) := fun X h tt sc e hs m => by
  unfold mE at m
  split at m
  · simp only [Bool.and_eq_true, decide_eq_true_eq] at m
    obtain ⟨⟨⟨⟨ht, rfl⟩, hsu⟩, hl⟩, m⟩ := m
    exact out_ff (snd_upper hc (base_of hsu _) hl ((ia X h false sc _ hs m).1 rfl)) ht
  · cases m
theorem clm_bm1 (mm : BM) {o a : R} (io : ClmE T c cx nm N o) (ia : ClmE T c cx nm N a) : ClmE T c cx nm N (.bm1 mm o a) := fun X h tt sc e hs m => by
  unfold mE at m
  split at m
  · simp only [Bool.and_eq_true, decide_eq_true_eq] at m
    obtain ⟨⟨⟨⟨⟨⟨ht, rfl⟩, hsu⟩, hl⟩, s1⟩, m1⟩, m2⟩ := m
    have po := (io X h false sc _ hs m1).1 rfl
    have pa := (ia X h false sc _ hs m2).1 rfl
    have hst : ∀ x : Expr, notStar x = true → noStars [x] = true := fun x z => by unfold noStars; simp [z]
    refine out_ff ?_ ht
    cases mm with
    | index => exact snd_index hc (fun to t p q => pe_bm PySem.F.plainAttrs_list PySem.F.slot_list_index PySem.F.type_list_index mt_index p q (base_of hsu _) (few_of (hst _ s1) _) hl (star_of s1 [] _) (stars_of (stars_tl (hst _ s1)).2 _ _).1) (star_of s1 [] _) po pa
    | count => exact snd_count hc (fun to t p q => pe_bm PySem.F.plainAttrs_list PySem.F.slot_list_count PySem.F.type_list_count mt_lcount p q (base_of hsu _) (few_of (hst _ s1) _) hl (star_of s1 [] _) (stars_of (stars_tl (hst _ s1)).2 _ _).1) (star_of s1 [] _) po pa
    | join => exact snd_join hc (star_of s1 [] _) (base_of hsu _) hl po pa
    | split => exact snd_split hc (star_of s1 [] _) (base_of hsu _) hl po pa
  · cases m
theorem clm_lockE {a : R} (ia : ClmE T c cx nm N a) : ClmE T c cx nm N (.lockE a) := fun X h tt sc e hs m => by
  unfold mE at m
  simp only [Bool.and_eq_true] at m
  exact out_ff (snd_lockE hc ((ia X h false sc e hs m.2).1 rfl)) m.1
theorem clm_lockEN {a : R} (ia : ClmE T c cx nm N a) : ClmE T c cx nm N (.lockEN a) := fun X h tt sc e hs m => by
  unfold mE at m
  simp only [Bool.and_eq_true] at m
  exact out_ff (snd_lockEN hc ((ia X h false sc e hs m.2).1 rfl)) m.1
theorem clm_lend (i : Nat) {a : R} (ia : ClmE T c cx nm N a) : ClmE T c cx nm N (.lend i a) := fun X h tt sc e hs m => by
  unfold mE at m
  simp only [Bool.and_eq_true] at m
  exact out_val hc (snd_lend hc ((ia X h false sc e hs m.2).1 rfl)) m.1
theorem clm_dctn : ClmE T c cx nm N .dctn := fun X h tt sc e hs m => by
  unfold mE at m
  split at m
  · exact out_ff (snd_dctn hc h.wd) m
  · cases m
theorem clm_stp {a k : R} (ia : ClmE T c cx nm N a) (ik : ClmE T c cx nm N k) : ClmE T c cx nm N (.stp a k) := fun X h tt sc e hs m => by
  unfold mE at m
  split at m
  · simp only [Bool.and_eq_true] at m
    obtain ⟨⟨ht, m1⟩, m2⟩ := m
    exact out_ff (snd_stp hc ((ia X h false sc _ hs m1).1 rfl) ((ik X h false sc _ hs m2).1 rfl)) ht
  · cases m
theorem clm_itkn {a : R} (ia : ClmE T c cx nm N a) : ClmI T c cx nm N (.itkn a) := fun X h tp sc e hs m tg ht => by
  unfold mI at m
  exact walk_itkn hc ((ia X h false sc e hs m).1 rfl)
theorem clm (r : R) : ClmE T c cx nm N r ∧ ClmA T c cx nm N r ∧ ClmI T c cx nm N r ∧ ClmS T c cx nm N r ∧ ClmP T c cx nm N r := by
  have noA : ∀ {r : R}, (∀ sc es, mA nm N r sc es = false) → ClmA T c cx nm N r := fun h X _ sc es _ m => by rw [h] at m; cases m
  have noI : ∀ {r : R}, (∀ tp sc es, mI nm N r tp sc es = false) → ClmI T c cx nm N r := fun h X _ tp sc es _ m => by rw [h] at m; cases m
  have noS : ∀ {r : R}, (∀ sc es, mS nm N r sc es = false) → ClmS T c cx nm N r := fun h X _ sc es _ m => by rw [h] at m; cases m
  have noE : ∀ {r : R}, (∀ tt sc es, mE nm N r tt sc es = false) → ClmE T c cx nm N r := fun h X _ tt sc es _ m => by rw [h] at m; cases m
  have noP : ∀ {r : R}, (∀ sc ks vs, mPr nm N r sc ks vs = false) → ClmP T c cx nm N r := fun h X _ sc ks vs _ m => by rw [h] at m; cases m
  induction r with
  | v i => exact ⟨clm_v hc i, noA fun _ _ => rfl, noI fun _ _ _ => rfl, noS fun _ _ => rfl, noP fun _ _ _ => rfl⟩
  | i n => exact ⟨clm_i hc n, noA fun _ _ => rfl, noI fun _ _ _ => rfl, noS fun _ _ => rfl, noP fun _ _ _ => rfl⟩
  | s n => exact ⟨clm_s hc n, noA fun _ _ => rfl, noI fun _ _ _ => rfl, noS fun _ _ => rfl, noP fun _ _ _ => rfl⟩
  | b n => exact ⟨clm_b hc n, noA fun _ _ => rfl, noI fun _ _ _ => rfl, noS fun _ _ => rfl, noP fun _ _ _ => rfl⟩
  | n => exact ⟨clm_n hc, noA fun _ _ => rfl, noI fun _ _ _ => rfl, noS fun _ _ => rfl, noP fun _ _ _ => rfl⟩
  | g k => exact ⟨clm_g hc k, noA fun _ _ => rfl, noI fun _ _ _ => rfl, noS fun _ _ => rfl, noP fun _ _ _ => rfl⟩
  | o1 o a ia => exact ⟨clm_o1 hc o ia.1, noA fun _ _ => rfl, noI fun _ _ _ => rfl, noS fun _ _ => rfl, noP fun _ _ _ => rfl⟩
  | o2 o a b ia ib => exact ⟨clm_o2 hc o ia.1 ib.1, noA fun _ _ => rfl, noI fun _ _ _ => rfl, noS fun _ _ => rfl, noP fun _ _ _ => rfl⟩
  | nil => exact ⟨noE fun _ _ _ => rfl, clm_nil hc, noI fun _ _ _ => rfl, noS fun _ _ => rfl, clm_nilP hc⟩
  | cons a r ia ir => exact ⟨noE fun _ _ _ => rfl, clm_cons hc ia.1 ir.2.1, noI fun _ _ _ => rfl, noS fun _ _ => rfl, noP fun _ _ _ => rfl⟩
  | consb a r ia ir => exact ⟨noE fun _ _ _ => rfl, clm_consb hc ia.1 ir.2.1, noI fun _ _ _ => rfl, noS fun _ _ => rfl, noP fun _ _ _ => rfl⟩
  | tup as ia => exact ⟨clm_tup hc ia.2.1, noA fun _ _ => rfl, noI fun _ _ _ => rfl, noS fun _ _ => rfl, noP fun _ _ _ => rfl⟩
  | lst as ia => exact ⟨clm_lst hc ia.2.1, noA fun _ _ => rfl, noI fun _ _ _ => rfl, noS fun _ _ => rfl, noP fun _ _ _ => rfl⟩
  | dct => exact ⟨clm_dct hc, noA fun _ _ => rfl, noI fun _ _ _ => rfl, noS fun _ _ => rfl, noP fun _ _ _ => rfl⟩
  | dctp ps ip => exact ⟨clm_dctp hc ip.2.2.2.2, noA fun _ _ => rfl, noI fun _ _ _ => rfl, noS fun _ _ => rfl, noP fun _ _ _ => rfl⟩
  | pr k v r ik iv ir => exact ⟨noE fun _ _ _ => rfl, noA fun _ _ => rfl, noI fun _ _ _ => rfl, noS fun _ _ => rfl, clm_pr hc ik.1 iv.1 ir.2.2.2.2⟩
  | get1 o k io ik => exact ⟨clm_get1 hc io.1 ik.1, noA fun _ _ => rfl, noI fun _ _ _ => rfl, noS fun _ _ => rfl, noP fun _ _ _ => rfl⟩
  | dpop o k io ik => exact ⟨clm_dpop hc io.1 ik.1, noA fun _ _ => rfl, noI fun _ _ _ => rfl, noS fun _ _ => rfl, noP fun _ _ _ => rfl⟩
  | get2 o k d io ik id => exact ⟨clm_get2 hc io.1 ik.1 id.1, noA fun _ _ => rfl, noI fun _ _ _ => rfl, noS fun _ _ => rfl, noP fun _ _ _ => rfl⟩
  | and a r ia ir => exact ⟨clm_and hc ia.1 ir.1, noA fun _ _ => rfl, noI fun _ _ _ => rfl, noS fun _ _ => rfl, noP fun _ _ _ => rfl⟩
  | or a r ia ir => exact ⟨clm_or hc ia.1 ir.1, noA fun _ _ => rfl, noI fun _ _ _ => rfl, noS fun _ _ => rfl, noP fun _ _ _ => rfl⟩
  | one a ia => exact ⟨clm_one hc ia.1, noA fun _ _ => rfl, noI fun _ _ _ => rfl, noS fun _ _ => rfl, noP fun _ _ _ => rfl⟩
  | not a ia => exact ⟨clm_not hc ia.1, noA fun _ _ => rfl, noI fun _ _ _ => rfl, noS fun _ _ => rfl, noP fun _ _ _ => rfl⟩
  | ife k a b ik ia ib => exact ⟨clm_ife hc ik.1 ia.1 ib.1, noA fun _ _ => rfl, noI fun _ _ _ => rfl, noS fun _ _ => rfl, noP fun _ _ _ => rfl⟩
  | chain o o' a b k ia ib ik => exact ⟨clm_chain hc o o' ia.1 ib.1 ik.1, noA fun _ _ => rfl, noI fun _ _ _ => rfl, noS fun _ _ => rfl, noP fun _ _ _ => rfl⟩
  | slc a lo hi ia il ih => exact ⟨clm_slc hc ia.1 il.1 ih.1, noA fun _ _ => rfl, noI fun _ _ _ => rfl, noS fun _ _ => rfl, noP fun _ _ _ => rfl⟩
  | call f as ia => exact ⟨clm_call hc f ia.2.1, noA fun _ _ => rfl, noI fun _ _ _ => rfl, noS fun _ _ => rfl, noP fun _ _ _ => rfl⟩
  | meth f o as io ia => exact ⟨clm_meth hc f io.1 ia.2.1, noA fun _ _ => rfl, noI fun _ _ _ => rfl, noS fun _ _ => rfl, noP fun _ _ _ => rfl⟩
  | make ci as ia => exact ⟨clm_make hc ci ia.2.1, noA fun _ _ => rfl, noI fun _ _ _ => rfl, noS fun _ _ => rfl, noP fun _ _ _ => rfl⟩
  | fld o ci k io => exact ⟨clm_fld hc ci k io.1, noA fun _ _ => rfl, noI fun _ _ _ => rfl, noS fun _ _ => rfl, noP fun _ _ _ => rfl⟩
  | hm m o as io ia => exact ⟨clm_hm hc m io.1 ia.2.1, noA fun _ _ => rfl, noI fun _ _ _ => rfl, noS fun _ _ => rfl, noP fun _ _ _ => rfl⟩
  | comp tg elt it tst ie ii it' => exact ⟨clm_comp hc tg ie.1 ii.2.2.1 it'.1, noA fun _ _ => rfl, noI fun _ _ _ => rfl, noS fun _ _ => rfl, noP fun _ _ _ => rfl⟩
  | itv i => exact ⟨noE fun _ _ _ => rfl, noA fun _ _ => rfl, clm_itvI hc i, clm_itvS hc i, noP fun _ _ _ => rfl⟩
  | ite a ia => exact ⟨noE fun _ _ _ => rfl, noA fun _ _ => rfl, clm_iteI hc ia.1, clm_iteS hc ia.1, noP fun _ _ _ => rfl⟩
  | itk a ia => exact ⟨noE fun _ _ _ => rfl, noA fun _ _ => rfl, clm_itk hc ia.1, noS fun _ _ => rfl, noP fun _ _ _ => rfl⟩
  | itms a ia => exact ⟨noE fun _ _ _ => rfl, noA fun _ _ => rfl, clm_itms hc ia.1, noS fun _ _ => rfl, noP fun _ _ _ => rfl⟩
  | sIt a ia => exact ⟨clm_sIt hc ia.1, noA fun _ _ => rfl, noI fun _ _ _ => rfl, noS fun _ _ => rfl, noP fun _ _ _ => rfl⟩
  | rev a ia => exact ⟨clm_rev hc ia.1, noA fun _ _ => rfl, noI fun _ _ _ => rfl, noS fun _ _ => rfl, noP fun _ _ _ => rfl⟩
  | lrg a ia => exact ⟨clm_lrg hc ia.1, noA fun _ _ => rfl, noI fun _ _ _ => rfl, noS fun _ _ => rfl, noP fun _ _ _ => rfl⟩
  | upper a ia => exact ⟨clm_upper hc ia.1, noA fun _ _ => rfl, noI fun _ _ _ => rfl, noS fun _ _ => rfl, noP fun _ _ _ => rfl⟩
  | bm1 m o a io ia => exact ⟨clm_bm1 hc m io.1 ia.1, noA fun _ _ => rfl, noI fun _ _ _ => rfl, noS fun _ _ => rfl, noP fun _ _ _ => rfl⟩
  | lockE a ia => exact ⟨clm_lockE hc ia.1, noA fun _ _ => rfl, noI fun _ _ _ => rfl, noS fun _ _ => rfl, noP fun _ _ _ => rfl⟩
  | lockEN a ia => exact ⟨clm_lockEN hc ia.1, noA fun _ _ => rfl, noI fun _ _ _ => rfl, noS fun _ _ => rfl, noP fun _ _ _ => rfl⟩
  | lend i a ia => exact ⟨clm_lend hc i ia.1, noA fun _ _ => rfl, noI fun _ _ _ => rfl, noS fun _ _ => rfl, noP fun _ _ _ => rfl⟩
  | dctn => exact ⟨clm_dctn hc, noA fun _ _ => rfl, noI fun _ _ _ => rfl, noS fun _ _ => rfl, noP fun _ _ _ => rfl⟩
  | stp a k ia ik => exact ⟨clm_stp hc ia.1 ik.1, noA fun _ _ => rfl, noI fun _ _ _ => rfl, noS fun _ _ => rfl, noP fun _ _ _ => rfl⟩
  | enuk a ia => exact ⟨noE fun _ _ _ => rfl, noA fun _ _ => rfl, clm_enuk hc ia.1, noS fun _ _ => rfl, noP fun _ _ _ => rfl⟩
  | itkn a ia => exact ⟨noE fun _ _ _ => rfl, noA fun _ _ => rfl, clm_itkn hc ia.1, noS fun _ _ => rfl, noP fun _ _ _ => rfl⟩
  | rng a ia => exact ⟨noE fun _ _ _ => rfl, noA fun _ _ => rfl, clm_rng hc ia.1, noS fun _ _ => rfl, noP fun _ _ _ => rfl⟩
  | rng2 a b ia ib => exact ⟨noE fun _ _ _ => rfl, noA fun _ _ => rfl, clm_rng2 hc ia.1 ib.1, noS fun _ _ => rfl, noP fun _ _ _ => rfl⟩
  | enu a ia => exact ⟨noE fun _ _ _ => rfl, noA fun _ _ => rfl, clm_enu hc ia.2.2.2.1, noS fun _ _ => rfl, noP fun _ _ _ => rfl⟩
  | zip a b ia ib => exact ⟨noE fun _ _ _ => rfl, noA fun _ _ => rfl, clm_zip hc ia.2.2.2.1 ib.2.2.2.1, noS fun _ _ => rfl, noP fun _ _ _ => rfl⟩
  | _ => exact ⟨noE fun _ _ _ => rfl, noA fun _ _ => rfl, noI fun _ _ _ => rfl, noS fun _ _ => rfl, noP fun _ _ _ => rfl⟩
end
end DL

/-! DL16: the matcher of statements, sound. -/
namespace DL
open PySem L2 PySem.Spec PyProof.Rows
def oneSt : Stmt ⊕ List Stmt → Option Stmt
  | .inl s => some s
  | .inr [s] => some s
  | _ => none
def noComp : Expr → Bool
  | .ListComp _ _ _ _ => false
  | .SetComp _ _ _ _ => false
  | .DictComp _ _ _ _ _ => false
  | _ => true
/-- a comprehension stored in a name at once -/
def cmpSet (sc : Scope) (y : Str) (py : Pos) : Expr → Bool
  | .ListComp _ _ s pos => (py.line == pos.line) && !(s.names.any fun (n, k) => n == y && (k == .local || k == .cell))
  | _ => false
def isCmpR : R → Bool
  | .comp _ _ _ _ => true
  | _ => false
section
variable (nm : Nm) (N : List Str)
def mB : R → Scope → (Stmt ⊕ List Stmt) → Bool
  | .seq a r, sc, ob => match ob with
    | .inr sts => match a with
      | .box _ => mB r sc (.inr sts)
      | _ => match sts with
        | st :: rest => mB a sc (.inl st) && mB r sc (.inr rest)
        | [] => false
    | _ => false
  | .skip, sc, ob => match ob with
    | .inr [] => true
    | .inl (.Pass _) => true
    | .inr [.Pass _] => true
    | _ => false
  | .expr e, sc, ob => match oneSt ob with
    | some (.Expr ee _) => noComp ee && mE nm N e false sc ee
    | _ => false
  | .set i e, sc, ob => match oneSt ob with
    | some (.Assign [.Name x py] ee _) => decide (N[i]? = some x) && lcB true sc x && mE nm N e false sc ee && ((noComp ee || celB sc x) || (locB sc x && cmpSet sc x py ee && (match sc.kind with | .function => true | _ => false) && isCmpR e))
    | _ => false
  | .setT is e, sc, ob => match oneSt ob with
    | some (.Assign [.Tuple es k p] ee _) => !(isTupE ee) && tgB.go N true sc is es && mE nm N e false sc ee
    | _ => false
  | .seti o k e, sc, ob => match oneSt ob with
    | some (.Assign [.Subscript eo ek _] ee _) => plainI ek && mE nm N o false sc eo && mE nm N k false sc ek && mE nm N e false sc ee
    | _ => false
  | .oseti i k e, sc, ob => match oneSt ob with
    | some (.Assign [.Subscript (.Name x _) ek _] ee _) => plainI ek && vOk N sc i x && mE nm N k false sc ek && mE nm N e false sc ee
    | _ => false
  | .fset o ci k e, sc, ob => match oneSt ob with
    | some (.Assign [.Attribute eo f _] ee _) => decide ((nm.lay ci)[k]? = some f) && nm.isL ci && mE nm N o false sc eo && mE nm N e false sc ee
    | _ => false
  | .faug o ci k e, sc, ob => match oneSt ob with
    | some (.AugAssign (.Attribute eo f _) .Add ee _) => decide ((nm.lay ci)[k]? = some f) && nm.isL ci && mE nm N o false sc eo && mE nm N e false sc ee
    | _ => false
  | .iff k a r, sc, ob => match oneSt ob with
    | some (.If ek ea er _) => mE nm N k true sc ek && mB a sc (.inr ea) && mB r sc (.inr er)
    | _ => false
  | .whl k a, sc, ob => match oneSt ob with
    | some (.While ek ea [] _) => mE nm N k true sc ek && mB a sc (.inr ea)
    | _ => false
  | .for tg it a, sc, ob => match oneSt ob with
    | some (.For etg eit ea [] _) => tgB N true sc tg etg && mI nm N it (isTupE etg) sc eit && noSet eit && mB a sc (.inr ea)
    | _ => false
  | .ret e, sc, ob => match oneSt ob with
    | some (.Return (some ee) _) => mE nm N e false sc ee
    | _ => false
  | .retn, sc, ob => match oneSt ob with
    | some (.Return none _) => true
    | _ => false
  | .retv i, sc, ob => match oneSt ob with
    | some (.Return (some (.Name x _)) _) => vOk N sc i x
    | _ => false
  | .brk, sc, ob => match oneSt ob with
    | some (.Break _) => true
    | _ => false
  | .cnt, sc, ob => match oneSt ob with
    | some (.Continue _) => true
    | _ => false
  | .never, sc, ob => true
  | .lock st, sc, ob => match oneSt ob with
    | some s => mB st sc (.inl s)
    | _ => false
  | .tryp st, sc, ob => match oneSt ob with
    | some (.Try body (_ :: _) [] [] _) => mB st sc (.inr body)
    | _ => false
  | .om m i as dst, sc, ob => match oneSt ob with
    | some (.Expr (.Call (.Attribute (.Name x _) f apos) es [] pos) _) => (match dst with | none => true | _ => false) && vOk N sc i x && decide (f = mN m) && atL apos pos && noStars es && (match es with
      | [] => mA0 m && (match as with | .nil => true | _ => false)
      | _ => mA1 m && mA nm N as sc es)
    | some (.Assign [.Name y _] (.Call (.Attribute (.Name x _) f apos) es [] pos) _) => (match dst with | some j => decide (N[j]? = some y) && lcB true sc y | _ => false) && vOk N sc i x && decide (f = mN m) && atL apos pos && noStars es && (match es with
      | [] => mA0 m && (match as with | .nil => true | _ => false)
      | _ => mA1 m && mA nm N as sc es)
    | _ => false
  | _, _, _ => false
end

section
variable {T : Tbl} {c : Nat → List Vx → Hs → VK2 → Prop} {cx : Cls2} {nm : Nm} {N : List Str} {X : Cx}
def OutB (T : Tbl) (c : Nat → List Vx → Hs → VK2 → Prop) (cx : Cls2) (X : Cx) (r : R) (ob : Stmt ⊕ List Stmt) : Prop :=
  (∀ st, ob = .inl st → PS X st (liftS X.K cx (wpS T c r))) ∧ (∀ sts, ob = .inr sts → PSs X sts (liftS X.K cx (wpS T c r)))
structure HpX (X : Cx) : Prop where
  po : PassesOwn (model X.prog X.w) X.A X.env X.xe
  fn : ∀ x, X.fn x = true
def ClmB (T : Tbl) (c : Nat → List Vx → Hs → VK2 → Prop) (cx : Cls2) (nm : Nm) (N : List Str) (r : R) : Prop := ∀ X, Okx T c cx nm N X → HpX X → ∀ sc ob, X.env.scope = sc → mB nm N r sc ob = true → OutB T c cx X r ob
theorem out_one {r : R} {ob : Stmt ⊕ List Stmt} {st : Stmt} (e : oneSt ob = some st) (h : PS X st (liftS X.K cx (wpS T c r))) : OutB T c cx X r ob := by
  unfold oneSt at e
  split at e
  · cases e
    exact ⟨fun st z => (by cases z; exact h), fun sts z => (by cases z)⟩
  · cases e
    exact ⟨fun st z => (by cases z), fun sts z => (by cases z; exact pss_one h)⟩
  · cases e
theorem sw_no {e : Expr} (h : noComp e = true) (t : Option Expr) (l : Nat) (env : Env) : swapsWith e t l env = pure false := by
  cases e <;> first | rfl | cases h
theorem sw_tup (e : Expr) (es : List Expr) (k : Nat) (p : Pos) (l : Nat) (env : Env) : swapsWithSole [.Tuple es k p] e l env = pure false := by
  cases e <;> rfl
theorem sw_cel {e : Expr} {x : Str} {py : Pos} {l : Nat} {env : Env} (h : celB env.scope x = true) : swapsWith e (some (.Name x py)) l env = pure false := by
  have k : (env.kindOf x == some .local) = false := by
    unfold celB at h
    unfold Env.kindOf
    split at h
    · rename_i q; rw [q]; rfl
    · cases h
  cases e <;> first | rfl | (show (pure (env.blockKind == .function && env.kindOf x == some .local && _ && _) : Sem Bool) = pure false; rw [k]; simp)
theorem sw_attr (e : Expr) (o : Expr) (f : Str) (p : Pos) (l : Nat) (env : Env) : swapsWith e (some (.Attribute o f p)) l env = pure false := by
  cases e <;> rfl
theorem asg_sub {o i : Expr} {pos : Pos} (h : plainI i = true) : ∀ v, assign (.Subscript o i pos) X.env v = (do
      let ov ← holding [v] (eval o X.env)
      let iv ← holding [v, ov] (eval i X.env)
      standAt pos
      holding [v, ov, iv] (setItem ov iv v)
      release [v, ov, iv] []) := by
  intro v
  cases i <;> first | rfl | cases h
theorem sw_sub (e o i : Expr) (p : Pos) (l : Nat) (env : Env) : swapsWithSole [.Subscript o i p] e l env = pure false := by
  cases e <;> rfl
theorem sw_sole {e t : Expr} (h : noComp e = true) (l : Nat) (env : Env) : swapsWithSole [t] e l env = pure false := by
  unfold swapsWithSole
  exact sw_no h _ _ _
variable (hc : CalMono c)
include hc
theorem cb_seq {a r : R} (ia : ClmB T c cx nm N a) (ir : ClmB T c cx nm N r) : ClmB T c cx nm N (.seq a r) := fun X h hp sc ob hs m => by
  unfold mB at m
  split at m
  · rename_i sts
    refine ⟨fun st z => (by cases z), fun sts' z => ?_⟩
    cases z
    split at m
    · exact pssImp ((ir X h hp sc _ hs m).2 _ rfl) fun D σ H w => st_box hc w
    · split at m
      · simp only [Bool.and_eq_true] at m
        exact st_seq hc ((ia X h hp sc _ hs m.1).1 _ rfl) ((ir X h hp sc _ hs m.2).2 _ rfl)
      · cases m
  · cases m
theorem cb_skip : ClmB T c cx nm N .skip := fun X h hp sc ob hs m => by
  unfold mB at m
  split at m
  · exact ⟨fun st z => (by cases z), fun sts z => by cases z; exact st_skip hc⟩
  · exact ⟨fun st z => (by cases z; exact st_pass hc), fun sts z => by cases z⟩
  · exact ⟨fun st z => (by cases z), fun sts z => by cases z; exact pss_one (st_pass hc)⟩
  · cases m
theorem cb_expr {e : R} : ClmB T c cx nm N (.expr e) := fun X h hp sc ob hs m => by
  unfold mB at m
  split at m
  · rename_i e1
    simp only [Bool.and_eq_true] at m
    exact out_one e1 (st_expr hc (((clm hc e).1 X h false sc _ hs m.2).1 rfl) (sw_no m.1 _ _ _))
  · cases m
theorem kind_of {sc : Scope} (m : (match sc.kind with | .function => true | _ => false) = true) : sc.kind = .function := by
  split at m
  · assumption
  · cases m
theorem cb_set {i : Nat} {e : R} : ClmB T c cx nm N (.set i e) := fun X h hp sc ob hs m => by
  unfold mB at m
  split at m
  · rename_i x py ee pos e1
    simp only [Bool.and_eq_true, Bool.or_eq_true, decide_eq_true_eq] at m
    obtain ⟨⟨⟨m1, m2⟩, m3⟩, m4⟩ := m
    have hl := lc_of hs (fun _ => hp.fn) m2
    have hN := h.hN
    subst hN
    refine out_one e1 ?_
    rcases m4 with (m4 | m4) | ⟨⟨⟨m0, m4⟩, m5⟩, m6⟩
    · exact st_set hc (ps_set h.nd m1 hl.1 (((clm hc e).1 X h false sc _ hs m3).1 rfl) (sw_no m4 _ _ _) hl.2) fun _ _ _ z => z
    · exact st_set hc (ps_set h.nd m1 hl.1 (((clm hc e).1 X h false sc _ hs m3).1 rfl) (sw_cel (by rw [hs]; exact m4)) hl.2) fun _ _ _ z => z
    · have hl' : X.env.scope.names.lookup x = some .local := by rw [hs]; exact loc_of m0
      unfold cmpSet at m4
      split at m4
      · rename_i eelt gens scope cpos
        simp only [Bool.and_eq_true, Bool.not_eq_true'] at m4
        cases e with
        | comp tg elt it tst =>
          unfold mE at m3
          split at m3
          · rename_i eelt' etg eit ifs scope' _ e2
            cases e2
            rw [Bool.and_eq_true, Bool.and_eq_true, Bool.and_eq_true, Bool.and_eq_true, Bool.and_eq_true, Bool.and_eq_true] at m3
            obtain ⟨⟨⟨⟨⟨⟨ht, mt⟩, mi⟩, mb⟩, mn⟩, me⟩, mf⟩ := m3
            refine st_set hc (ps_setLc h.calm h.nd m1 hl' (sw_true (by rw [hs]; exact kind_of hc m5) hl' m4.1 m4.2) ((clm hc it).2.2.1 X h (isTupE etg) sc _ hs mi etg fun z => z) (blkOk_by (own := ownN X.N tg.is) (by rw [hs]; exact mb)) (g := tgG X.K tg) (tt := liftT X.K cx (wpE T c tst)) (te := liftE X.K cx (wpE T c elt))
              (fun s H C cl fp => ?_) (fun s H C cl fp => ?_) (fun s H C cl fp => ?_) (set_of mn)) fun σ H Q w => lc_ok hc (ownN_snd _ _) (fun _ _ _ h => h) (fun _ _ _ h => h) (fun _ _ _ h => h) w
            · exact tg_of (X := X.blk s H scope (compEnvC scope cl C X.env) fp) (fun z => by cases z) h.calm h.nd (show relS scope X.env.scope = relS scope sc by rw [hs]) mt
            · split at mf
              · split at mf
                · exact pts_tt hc
                · cases mf
              · exact pts_one (((clm hc tst).1 _ (h.blk s H scope (compEnvC scope cl C X.env) fp) true _ _ (show relS scope X.env.scope = relS scope sc by rw [hs]) mf).2 rfl).1
              · cases mf
            · exact ((clm hc elt).1 _ (h.blk s H scope (compEnvC scope cl C X.env) fp) false _ _ (show relS scope X.env.scope = relS scope sc by rw [hs]) me).1 rfl
          · cases m3
        | _ => cases m6
      · cases m4
  · cases m
theorem cb_setT {is : List Nat} {e : R} : ClmB T c cx nm N (.setT is e) := fun X h hp sc ob hs m => by
  unfold mB at m
  split at m
  · rename_i es k p ee pos e1
    simp only [Bool.and_eq_true, Bool.not_eq_true'] at m
    obtain ⟨⟨m2, m3⟩, m4⟩ := m
    have hN := h.hN
    subst hN
    obtain ⟨h1, h2, h3⟩ := tgN_of (fun _ => hp.fn) h.calm h.nd hs _ _ m3
    have hw : swappedStores [.Tuple es k p] ee X.env = pure none := by
      cases ee <;> first | rfl | cases m2
    exact out_one e1 (st_setT hc (ps_asg (((clm hc e).1 X h false sc _ hs m4).1 rfl) (pg_seq h.calm h1 h2 h3) (sw_tup _ _ _ _ _ _) hw rfl))
  · cases m
theorem cb_seti {o k e : R} : ClmB T c cx nm N (.seti o k e) := fun X h hp sc ob hs m => by
  unfold mB at m
  split at m
  · rename_i eo ek p ee pos e1
    simp only [Bool.and_eq_true] at m
    obtain ⟨⟨⟨m2, m3⟩, m4⟩, m5⟩ := m
    exact out_one e1 (st_seti hc (ps_asg (((clm hc e).1 X h false sc _ hs m5).1 rfl) (pg_sub (((clm hc o).1 X h false sc _ hs m3).1 rfl) (((clm hc k).1 X h false sc _ hs m4).1 rfl) (pset_ok h.un h.wd) (asg_sub m2)) (sw_sub _ _ _ _ _ _) rfl rfl))
  · cases m
theorem cb_oseti {i : Nat} {k e : R} : ClmB T c cx nm N (.oseti i k e) := fun X h hp sc ob hs m => by
  unfold mB at m
  split at m
  · rename_i x px ek p ee pos e1
    simp only [Bool.and_eq_true] at m
    obtain ⟨⟨⟨m2, m3⟩, m4⟩, m5⟩ := m
    obtain ⟨h1, h2, h3, h4⟩ := vOk_of h hs m3
    exact out_one e1 (st_oseti hc (ps_asg (((clm hc e).1 X h false sc _ hs m5).1 rfl) (pg_sub (pe_var h1 h2 h3 h4) (((clm hc k).1 X h false sc _ hs m4).1 rfl) (pset_ok h.un h.wd) (asg_sub m2)) (sw_sub _ _ _ _ _ _) rfl rfl))
  · cases m
theorem cb_fset {o e : R} {ci k : Nat} : ClmB T c cx nm N (.fset o ci k e) := fun X h hp sc ob hs m => by
  unfold mB at m
  split at m
  · rename_i eo f p ee pos e1
    simp only [Bool.and_eq_true, decide_eq_true_eq] at m
    obtain ⟨⟨⟨m1, m2⟩, m3⟩, m4⟩ := m
    exact out_one e1 (st_fset hc (h.cl ci m2) (by rw [h.lay]; exact m1) (((clm hc o).1 X h false sc _ hs m3).1 rfl) (((clm hc e).1 X h false sc _ hs m4).1 rfl) (sw_attr _ _ _ _ _ _))
  · cases m
theorem cb_faug {o e : R} {ci k : Nat} : ClmB T c cx nm N (.faug o ci k e) := fun X h hp sc ob hs m => by
  unfold mB at m
  split at m
  · rename_i eo f p ee pos e1
    simp only [Bool.and_eq_true, decide_eq_true_eq] at m
    obtain ⟨⟨⟨m1, m2⟩, m3⟩, m4⟩ := m
    exact out_one e1 (st_faug hc (h.cl ci m2) (by rw [h.lay]; exact m1) (((clm hc o).1 X h false sc _ hs m3).1 rfl) (((clm hc e).1 X h false sc _ hs m4).1 rfl))
  · cases m
theorem cb_iff {k a r : R} (ia : ClmB T c cx nm N a) (ir : ClmB T c cx nm N r) : ClmB T c cx nm N (.iff k a r) := fun X h hp sc ob hs m => by
  unfold mB at m
  split at m
  · rename_i ek ea er pos e1
    simp only [Bool.and_eq_true] at m
    exact out_one e1 (st_iff hc (((clm hc k).1 X h true sc _ hs m.1.1).2 rfl).1 ((ia X h hp sc _ hs m.1.2).2 _ rfl) ((ir X h hp sc _ hs m.2).2 _ rfl))
  · cases m
theorem cb_whl {k a : R} (ia : ClmB T c cx nm N a) : ClmB T c cx nm N (.whl k a) := fun X h hp sc ob hs m => by
  unfold mB at m
  split at m
  · rename_i ek ea pos e1
    simp only [Bool.and_eq_true] at m
    exact out_one e1 (st_whl hc hp.po (((clm hc k).1 X h true sc _ hs m.1).2 rfl).1 ((ia X h hp sc _ hs m.2).2 _ rfl))
  · cases m
theorem cb_for {tg : Tg} {it a : R} (ia : ClmB T c cx nm N a) : ClmB T c cx nm N (.for tg it a) := fun X h hp sc ob hs m => by
  unfold mB at m
  split at m
  · rename_i etg eit ea pos e1
    simp only [Bool.and_eq_true] at m
    obtain ⟨⟨⟨m1, m2⟩, m3⟩, m4⟩ := m
    have hN := h.hN
    subst hN
    exact out_one e1 (st_for hc hp.po h.calm ((clm hc it).2.2.1 X h (isTupE etg) sc _ hs m2 etg fun z => z) (tg_of (fun _ => hp.fn) h.calm h.nd hs m1) ((ia X h hp sc _ hs m4).2 _ rfl) (set_of m3))
  · cases m
theorem cb_ret {e : R} : ClmB T c cx nm N (.ret e) := fun X h hp sc ob hs m => by
  unfold mB at m
  split at m
  · rename_i ee pos e1
    exact out_one e1 (st_ret hc (((clm hc e).1 X h false sc _ hs m).1 rfl))
  · cases m
theorem cb_retn : ClmB T c cx nm N .retn := fun X h hp sc ob hs m => by
  unfold mB at m
  split at m
  · rename_i pos e1
    exact out_one e1 (st_retn hc)
  · cases m
theorem cb_retv {i : Nat} : ClmB T c cx nm N (.retv i) := fun X h hp sc ob hs m => by
  unfold mB at m
  split at m
  · rename_i x p pos e1
    obtain ⟨h1, h2, h3, h4⟩ := vOk_of h hs m
    exact out_one e1 (st_retv hc h1 h2 h3 h4)
  · cases m
theorem cb_brk : ClmB T c cx nm N .brk := fun X h hp sc ob hs m => by
  unfold mB at m
  split at m
  · rename_i pos e1
    exact out_one e1 (st_brk hc)
  · cases m
theorem cb_cnt : ClmB T c cx nm N .cnt := fun X h hp sc ob hs m => by
  unfold mB at m
  split at m
  · rename_i pos e1
    exact out_one e1 (st_cnt hc)
  · cases m
theorem cb_never : ClmB T c cx nm N .never := fun X h hp sc ob hs m => ⟨fun st z => st_never hc, fun sts z => st_nevers hc⟩
theorem om_pe {mm : M} {i : Nat} {as : R} (h : Okx T c cx nm N X) {sc : Scope} (hs : X.env.scope = sc) {x f : Str} {es : List Expr} {p apos pos : Pos} (mv : vOk N sc i x = true) (hf : f = mN mm) (hl : atL apos pos = true) (m : (match es with
      | [] => mA0 mm && (match as with | .nil => true | _ => false)
      | _ => mA1 mm && mA nm N as sc es) = true) (hst : noStars es = true) : ∃ te : TE, PE X (.Call (.Attribute (.Name x p) f apos) es [] pos) te ∧ ∀ σ H Q, tBM X.K "list" (mOf X.K cx mm) (tVar i) (liftA X.K cx (wpE T c as)) σ H Q → te σ H Q := by
  obtain ⟨h1, h2, h3, h4⟩ := vOk_of h hs mv
  have po : PE X (.Name x p) (tVar i) := pe_var h1 h2 h3 h4
  have hsu : noSup (.Name x p) = true := rfl
  subst hf
  cases es with
  | nil =>
    simp only [Bool.and_eq_true] at m
    have e := as_nil hc m.2
    subst e
    have key : ∀ σ H Q, tBM X.K "list" (mOf X.K cx mm) (tVar i) (liftA X.K cx (wpE T c .nil)) σ H Q → tBM0 X.K "list" (mOf X.K cx mm) (tVar i) σ H Q := fun σ H Q ⟨v, e, ty, w⟩ => by
      obtain ⟨S, σ2, hr, rs, w⟩ := w
      exact ⟨v, e, ty, w [] H hr .refl .nil⟩
    cases mm with
    | pop => exact ⟨_, pe_bm0 PySem.F.plainAttrs_list PySem.F.slot_list_pop PySem.F.type_list_pop mut_pop po (base_of hsu _) hl, key⟩
    | clear => exact ⟨_, pe_bm0 PySem.F.plainAttrs_list PySem.F.slot_list_clear PySem.F.type_list_clear mut_clear po (base_of hsu _) hl, key⟩
    | _ => cases m.1
  | cons e es =>
    simp only [Bool.and_eq_true] at m
    have pa := (clm hc as).2.1 X h sc _ hs m.2
    have s1 := star_of (stars_tl hst).1 es X.env
    cases mm with
    | append => exact ⟨_, pe_bm PySem.F.plainAttrs_list PySem.F.slot_list_append PySem.F.type_list_append mut_append po pa (base_of hsu _) (few_of hst _) hl s1 (stars_of (stars_tl hst).2 _ _).1, fun _ _ _ z => z⟩
    | popAt => exact ⟨_, pe_bm PySem.F.plainAttrs_list PySem.F.slot_list_pop PySem.F.type_list_pop mut_popAt po pa (base_of hsu _) (few_of hst _) hl s1 (stars_of (stars_tl hst).2 _ _).1, fun _ _ _ z => z⟩
    | insert => exact ⟨_, pe_bm PySem.F.plainAttrs_list PySem.F.slot_list_insert PySem.F.type_list_insert mut_insert po pa (base_of hsu _) (few_of hst _) hl s1 (stars_of (stars_tl hst).2 _ _).1, fun _ _ _ z => z⟩
    | extend => exact ⟨_, pe_bm PySem.F.plainAttrs_list PySem.F.slot_list_extend PySem.F.type_list_extend mut_extend po pa (base_of hsu _) (few_of hst _) hl s1 (stars_of (stars_tl hst).2 _ _).1, fun _ _ _ z => z⟩
    | _ => cases m.1
theorem cb_om {mm : M} {i : Nat} {as : R} {dst : Option Nat} : ClmB T c cx nm N (.om mm i as dst) := fun X h hp sc ob hs m => by
  unfold mB at m
  split at m
  · rename_i x p f apos es pos spos e1
    rw [Bool.and_eq_true, Bool.and_eq_true, Bool.and_eq_true, Bool.and_eq_true, Bool.and_eq_true] at m
    obtain ⟨⟨⟨⟨⟨m1, m2⟩, m3⟩, m4⟩, m5⟩, m6⟩ := m
    obtain ⟨te, q, w⟩ := om_pe hc (mm := mm) (as := as) (p := p) h hs m2 (of_decide_eq_true m3) m4 m6 m5
    cases dst with
    | none => exact out_one e1 (st_om (es := []) hc w none (ps_expr q (sw_no rfl _ _ _)))
    | some j => cases m1
  · rename_i y py x p f apos es pos spos e1
    rw [Bool.and_eq_true, Bool.and_eq_true, Bool.and_eq_true, Bool.and_eq_true, Bool.and_eq_true] at m
    obtain ⟨⟨⟨⟨⟨m1, m2⟩, m3⟩, m4⟩, m5⟩, m6⟩ := m
    obtain ⟨te, q, w⟩ := om_pe hc (mm := mm) (as := as) (p := p) h hs m2 (of_decide_eq_true m3) m4 m6 m5
    cases dst with
    | none => cases m1
    | some j =>
      simp only [Bool.and_eq_true, decide_eq_true_eq] at m1
      have hl := lc_of hs (fun _ => hp.fn) m1.2
      have hN := h.hN
      subst hN
      exact out_one e1 (st_om (es := []) hc w (some j) (ps_set h.nd m1.1 hl.1 q (sw_no rfl _ _ _) hl.2))
  · cases m
theorem cb_lock {st : R} (ia : ClmB T c cx nm N st) : ClmB T c cx nm N (.lock st) := fun X h hp sc ob hs m => by
  unfold mB at m
  split at m
  · rename_i s e1
    exact out_one e1 (st_lock hc ((ia X h hp sc _ hs m).1 _ rfl))
  · cases m
theorem cb_tryp {st : R} (ia : ClmB T c cx nm N st) : ClmB T c cx nm N (.tryp st) := fun X h hp sc ob hs m => by
  unfold mB at m
  split at m
  · rename_i body h0 hr pos e1
    exact out_one e1 (ps_try_thru0 ((ia X.nox h.nox ⟨PassesOwn.never, hp.fn⟩ sc _ hs m).2 _ rfl))
  · cases m
theorem cb (r : R) : ClmB T c cx nm N r := by
  have no : ∀ {r : R}, (∀ sc ob, mB nm N r sc ob = false) → ClmB T c cx nm N r := fun h X _ _ sc ob _ m => by rw [h] at m; cases m
  induction r with
  | seq a r ia ir => exact cb_seq hc ia ir
  | skip => exact cb_skip hc
  | expr e _ => exact cb_expr hc
  | set i e _ => exact cb_set hc
  | setT is e _ => exact cb_setT hc
  | seti o k e _ _ _ => exact cb_seti hc
  | oseti i k e _ _ => exact cb_oseti hc
  | fset o ci k e _ _ => exact cb_fset hc
  | faug o ci k e _ _ => exact cb_faug hc
  | iff k a r _ ia ir => exact cb_iff hc ia ir
  | whl k a _ ia => exact cb_whl hc ia
  | «for» tg it a _ ia => exact cb_for hc ia
  | ret e _ => exact cb_ret hc
  | retn => exact cb_retn hc
  | retv i => exact cb_retv hc
  | brk => exact cb_brk hc
  | cnt => exact cb_cnt hc
  | never => exact cb_never hc
  | lock st ia => exact cb_lock hc ia
  | tryp st ia => exact cb_tryp hc ia
  | om m i as dst _ => exact cb_om hc
  | _ => exact no fun _ _ => rfl
end
end DL

/-! DL17: a law's defs together; the promise at every depth; the end. -/
namespace DL
open PySem L2 PySem.Spec PyProof.Rows
structure DefI where
  id : Nat
  name : Str
  qual : Str
  st : Stmt
  N : List Str
  ps : List Str
  fn : Fn
  mt : Option Nat
structure ClsI where
  id : Nat
  name : Str
  lay : List Str
  ini : Nat
structure Inf where
  defs : List DefI
  clss : List ClsI
  gls : List (Nat × Str × Vx)
def Inf.df (L : Inf) (f : Nat) : Option DefI := L.defs.find? fun d => d.id == f
def Inf.cl (L : Inf) (f : Nat) : Option ClsI := L.clss.find? fun d => d.id == f
def Inf.gl (L : Inf) (k : Nat) : Option (Nat × Str × Vx) := L.gls.find? fun d => d.1 == k
def Inf.T (L : Inf) : Tbl where
  fn f := (L.df f).map (·.fn)
  glob k := match L.gl k with
    | some g => g.2.2
    | none => .d .non
  cini c := match L.cl c with
    | some c => c.ini
    | none => 0
  fcls f := match L.df f with
    | some d => d.mt.getD 0
    | none => 0
def Inf.nm (L : Inf) : Nm where
  fnm f := match L.df f with
    | some d => d.name
    | none => ""
  mnm f := match L.df f with
    | some d => d.name
    | none => ""
  gnm k := match L.gl k with
    | some g => g.2.1
    | none => ""
  cnm c := match L.cl c with
    | some c => c.name
    | none => ""
  lay c := match L.cl c with
    | some c => c.lay
    | none => []
  isF f := match L.df f with
    | some d => d.mt.isNone
    | none => false
  isM f := match L.df f with
    | some d => d.mt.isSome
    | none => false
  isG k := (L.gl k).isSome
  isC c := match L.cl c with
    | some c => (match L.df c.ini with
      | some d => decide (d.mt = some c.id) && decide (d.name = ("__init__" : Str))
      | none => false)
    | none => false
  isL c := (L.cl c).isSome
def scB (N ps : List Str) (sc : Scope) : Bool :=
  (match sc.kind with | .function => true | _ => false) && !sc.isCoroutine && !sc.isGenerator && decide (N.Nodup) && decide (N.take ps.length = ps) &&
    (ps.all fun x => match sc.names.lookup x with | some .local => true | some .cell => true | _ => false) && (sc.names.all fun y => match y.2 with | .free => false | _ => true)
theorem sc_of {N ps : List Str} {sc : Scope} (h : scB N ps sc = true) : FnScope N ps sc := by
  unfold scB at h
  simp only [Bool.and_eq_true, Bool.not_eq_true', decide_eq_true_eq, List.all_eq_true] at h
  obtain ⟨⟨⟨⟨⟨⟨h1, h2⟩, h3⟩, h4⟩, h5⟩, h6⟩, h7⟩ := h
  refine ⟨?_, h2, h3, h4, h5, fun x hx => ?_, fun y hy e => ?_⟩
  · split at h1
    · assumption
    · cases h1
  · have q := h6 x hx
    split at q
    · exact .inl (by assumption)
    · exact .inr (by assumption)
    · cases q
  · have q := h7 y hy
    rw [e] at q
    cases q
def chkD (L : Inf) (d : DefI) : Bool := scB d.N d.ps (defScope d.st) && decide (d.fn.np = d.ps.length) && decide (d.fn.nl = d.N.length) && mB L.nm d.N d.fn.body (defScope d.st) (.inr (defBody d.st))
structure FunAt (L : Inf) (K : Frag) (mg : Str → Option Value) (adr : Nat → Addr) (d : DefI) (fa : Addr) (fd : FuncData) : Prop where
  f : Fun K d.name d.qual d.st fa fd
  b : Binds K fd d.ps []
  r : match d.mt with
    | none => mg d.name = some (.ref fa) ∧ PySem.W.keepIn K (.ref fa) = true
    | some ci => Cls K (adr ci) ∧ Meth K (adr ci) d.name fa ∧ d.name ∉ L.nm.lay ci
structure Facts (L : Inf) (K : Frag) (mg : Str → Option Value) (adr : Nat → Addr) (w : World) : Prop where
  df : ∀ d ∈ L.defs, ∃ fa fd, FunAt L K mg adr d fa fd
  cl : ∀ c ∈ L.clss, ClsOk K ⟨adr, L.nm.lay, w⟩ c.id ∧ PySem.W.makesIn K (adr c.id) = true ∧ PySem.W.keepIn K (.ref (adr c.id)) = true ∧ mg c.name = some (.ref (adr c.id))
  gl : ∀ g ∈ L.gls, ∃ v u, mg g.2.1 = some u ∧ RelV v u ∧ own g.2.2 = false ∧ ∀ S H, Rel K ⟨adr, L.nm.lay, w⟩ S H → RepX K H S g.2.2 v
  blt : ∀ x ∈ bltNames, mg x = none
structure Inf.Chk (L : Inf) : Prop where
  d : ∀ d ∈ L.defs, chkD L d = true
  ids : ∀ d ∈ L.defs, L.df d.id = some d
theorem startS_len {nl : Nat} {xs : List Vx} (h : xs.length ≤ nl) : (startS nl xs).length = nl := by unfold startS; simp; omega
theorem start_at {N : List Str} {xs : List Vx} {vs : List V} {K : Frag} {S : Hs} {H : Hp} (r : Paired (RepX K H S) xs vs) : ∀ (i : Nat) (x : Vx), (startS N.length xs)[i]? = some (some x) → x ∈ xs ∧ ∃ v, (L2.start N vs)[i]? = some (some v) ∧ RepX K H S x v := by
  intro i x e
  have hl := Paired.length r
  unfold startS at e
  unfold L2.start
  by_cases hi : i < xs.length
  · rw [List.getElem?_append_left (by simpa using hi)] at e
    rw [List.getElem?_append_left (by simpa [← hl] using hi)]
    rw [List.getElem?_map] at e
    cases q : xs[i]? with
    | none => rw [q] at e; cases e
    | some y =>
      rw [q] at e
      cases e
      refine ⟨List.mem_of_getElem? q, ?_⟩
      clear hi hl
      induction r generalizing i with
      | nil => simp at q
      | cons p t ih =>
        cases i with
        | zero => simp at q; subst q; exact ⟨_, rfl, p⟩
        | succ i =>
          have q' := by simpa using q
          obtain ⟨v, h1, h2⟩ := ih i q'
          exact ⟨v, by simpa using h1, h2⟩
  · rw [List.getElem?_append_right (by simpa using Nat.le_of_not_lt hi)] at e
    have := List.mem_of_getElem? e
    simp at this
section
variable {L : Inf} {P : Program} {w : World} {K : Frag} {mg : Str → Option Value} {base : Heap} {adr : Nat → Addr}
theorem df_of (hL : L.Chk) {f : Nat} {d : DefI} (e : L.df f = some d) : d ∈ L.defs ∧ d.id = f := by
  unfold Inf.df at e
  exact ⟨List.mem_of_find?_eq_some e, by have := List.find?_some e; simpa using this⟩
theorem cl_of {f : Nat} {d : ClsI} (e : L.cl f = some d) : d ∈ L.clss ∧ d.id = f := by
  unfold Inf.cl at e
  exact ⟨List.mem_of_find?_eq_some e, by have := List.find?_some e; simpa using this⟩
theorem gl_of' {f : Nat} {d : Nat × Str × Vx} (e : L.gl f = some d) : d ∈ L.gls ∧ d.1 = f := by
  unfold Inf.gl at e
  exact ⟨List.mem_of_find?_eq_some e, by have := List.find?_some e; simpa using this⟩
theorem num_ok (hL : L.Chk) (n : Nat) {d : DefI} (hd : d ∈ L.defs) : NumOk (cal L.T n) d.id d.ps.length := by
  intro xs S Q h
  cases n with
  | zero => exact h.elim
  | succ n =>
    obtain ⟨F, e, l, _⟩ := h
    have hc := hL.d d hd
    have ef : L.T.fn d.id = some d.fn := by show (L.df d.id).map (·.fn) = _; rw [hL.ids d hd]; rfl
    rw [ef] at e; cases e
    unfold chkD at hc
    simp only [Bool.and_eq_true, decide_eq_true_eq] at hc
    rw [l, hc.1.1.2]
theorem lev (hL : L.Chk) (X : Facts L K mg adr w) : ∀ n, ∀ d ∈ L.defs, ∀ fa fd, FunAt L K mg adr d fa fd → FnOk P w K mg base CX0 (2 * n) fa fd d.ps (spOf K ⟨adr, L.nm.lay, w⟩ (cal L.T n) d.id d.ps.length)
  | 0, d, hd, fa, fd, hf => ⟨fun vs H Q E h => h.1, fun A outer s H args us vs Q E _ _ _ _ h => by obtain ⟨_, S, xs, _, _, w⟩ := h; exact w.elim⟩
  | n + 1, d, hd, fa, fd, hf => by
    have hc := hL.d d hd
    unfold chkD at hc
    simp only [Bool.and_eq_true, decide_eq_true_eq] at hc
    obtain ⟨⟨⟨c1, c2⟩, c3⟩, c4⟩ := hc
    have ef : L.T.fn d.id = some d.fn := by show (L.df d.id).map (·.fn) = _; rw [hL.ids d hd]; rfl
    have ih := lev hL X n
    refine hf.f.ok (k := 2 * n + 1) (sc_of c1) (fun vs H Q E h => h.1) fun cdv A outer s H vs Q E hr h => ?_
    obtain ⟨hl, S, xs, hrel, hp, F, e, ll, ho, wp⟩ := h
    rw [ef] at e; cases e
    have okx : Okx L.T (cal L.T n) ⟨adr, L.nm.lay, w⟩ L.nm d.N (cxOf CX0 P w K mg base d.N d.qual (defScope d.st) fa cdv A outer s H E).nox := by
      refine ⟨rfl, rfl, (sc_of c1).nd, by have := hr.un; show (A.deeper _).units + 65 < _; omega, X.blt, rfl, rfl, fun f hf => ?_, fun f hf => ?_, fun ci hf => ?_, fun ci hf => ?_, fun k hf => ?_⟩
      · cases q : L.df f with
        | none => rw [show L.nm.isF f = (match L.df f with | some d => d.mt.isNone | none => false) from rfl, q] at hf; cases hf
        | some d' =>
          rw [show L.nm.isF f = (match L.df f with | some d => d.mt.isNone | none => false) from rfl, q] at hf
          obtain ⟨hd', rfl⟩ := df_of hL q
          obtain ⟨fa', fd', g⟩ := X.df d' hd'
          have r := g.r
          rw [show d'.mt = none from Option.isNone_iff_eq_none.mp hf] at r
          refine ⟨2 * n, fa', fd', d'.ps, d'.ps.length, ih d' hd' fa' fd' g, num_ok hL n hd', hr.mono (by omega), ?_, r.2, g.b⟩
          show mg (match L.df d'.id with | some d => d.name | none => "") = _
          rw [q]; exact r.1
      · cases q : L.df f with
        | none => rw [show L.nm.isM f = (match L.df f with | some d => d.mt.isSome | none => false) from rfl, q] at hf; cases hf
        | some d' =>
          rw [show L.nm.isM f = (match L.df f with | some d => d.mt.isSome | none => false) from rfl, q] at hf
          obtain ⟨hd', rfl⟩ := df_of hL q
          obtain ⟨fa', fd', g⟩ := X.df d' hd'
          obtain ⟨ci, eci⟩ := Option.isSome_iff_exists.mp hf
          have r := g.r
          rw [eci] at r
          have e1 : L.T.fcls d'.id = ci := by show (match L.df d'.id with | some d => d.mt.getD 0 | none => 0) = _; rw [q]; simp [eci]
          have e2 : L.nm.mnm d'.id = d'.name := by show (match L.df d'.id with | some d => d.name | none => "") = _; rw [q]
          refine ⟨2 * n, fa', fd', d'.ps, d'.ps.length, ?_, ?_, ?_, ih d' hd' fa' fd' g, num_ok hL n hd', hr.mono (by omega), g.b⟩
          · rw [e1]; exact r.1
          · rw [e1, e2]; exact r.2.1
          · rw [e1, e2]; exact r.2.2
      · cases q : L.cl ci with
        | none => rw [show L.nm.isC ci = (match L.cl ci with | some c => (match L.df c.ini with | some d => decide (d.mt = some c.id) && decide (d.name = ("__init__" : Str)) | none => false) | none => false) from rfl, q] at hf; cases hf
        | some c =>
          rw [show L.nm.isC ci = (match L.cl ci with | some c => (match L.df c.ini with | some d => decide (d.mt = some c.id) && decide (d.name = ("__init__" : Str)) | none => false) | none => false) from rfl, q] at hf
          obtain ⟨hcm, rfl⟩ := cl_of q
          simp only at hf
          cases q2 : L.df c.ini with
          | none => rw [q2] at hf; cases hf
          | some d' =>
            rw [q2] at hf
            simp only [Bool.and_eq_true, decide_eq_true_eq] at hf
            obtain ⟨hd', eid⟩ := df_of hL q2
            obtain ⟨fa', fd', g⟩ := X.df d' hd'
            have r := g.r
            rw [hf.1] at r
            obtain ⟨k1, k2, k3, k4⟩ := X.cl c hcm
            have e1 : L.T.cini c.id = d'.id := by show (match L.cl c.id with | some c => c.ini | none => 0) = _; rw [q]; exact eid.symm
            have e2 : L.nm.cnm c.id = c.name := by show (match L.cl c.id with | some c => c.name | none => "") = _; rw [q]
            have r2 := r.2.1.at_
            rw [hf.2] at r2
            rw [e1, e2]
            exact ⟨2 * n, fa', fd', d'.ps, d'.ps.length, ⟨k2, r2, r.2.1.fn, k3⟩, ih d' hd' fa' fd' g, num_ok hL n hd', hr, k4, g.b⟩
      · cases q : L.cl ci with
        | none => rw [show L.nm.isL ci = (L.cl ci).isSome from rfl, q] at hf; cases hf
        | some c =>
          obtain ⟨hcm, rfl⟩ := cl_of q
          exact (X.cl c hcm).1
      · cases q : L.gl k with
        | none => rw [show L.nm.isG k = (L.gl k).isSome from rfl, q] at hf; cases hf
        | some g =>
          obtain ⟨hgm, e⟩ := gl_of' q
          have e1 : L.nm.gnm k = g.2.1 := by show (match L.gl k with | some g => g.2.1 | none => "") = _; rw [q]
          have e2 : L.T.glob k = g.2.2 := by show (match L.gl k with | some g => g.2.2 | none => .d .non) = _; rw [q]
          rw [e1, e2]
          exact X.gl g hgm
    refine ⟨liftS K ⟨adr, L.nm.lay, w⟩ (wpS L.T (cal L.T n) d.fn.body), (cb (cal_mono n) d.fn.body _ okx ⟨PassesOwn.never, fun _ => rfl⟩ _ _ rfl c4).2 _ rfl, ?_⟩
    have hlen : xs.length = vs.length := Paired.length hp
    have hN : vs.length ≤ d.N.length := by
      have := congrArg List.length (sc_of c1).pre
      rw [List.length_take] at this
      omega
    have all : ∀ x ∈ xs, own x = false := fun x hx => by
      have := List.all_eq_true.mp ho x hx
      simpa using this
    refine ⟨⟨fun b => S b = none ∧ H b ≠ none, H, H⟩, S, startS d.fn.nl xs, hrel, ⟨⟨?_, fun i x e => ?_⟩, fun i x a e o _ => ?_, fun i x a e l e' => ?_⟩, ⟨fun b z => ⟨z.1, rfl, z.2⟩, fun b z => z⟩, ?_⟩
    · rw [startS_len (by rw [c3, hlen]; exact hN), c3]; unfold L2.start; simp; omega
    · rw [c3] at e
      exact (start_at hp i x e).2
    · rw [c3] at e
      rw [all x (start_at hp i x e).1] at o; cases o
    · rw [c3] at e
      obtain ⟨_, v, h1, h2⟩ := start_at hp i x e
      rw [h1] at e'; cases e'
      cases x with
      | bw ds => obtain ⟨p, us, ep, h, nn, _⟩ := h2; cases ep; exact ⟨nn, by rw [h]; simp⟩
      | bd ds => obtain ⟨p, us, ep, h, nn, _⟩ := h2; cases ep; exact ⟨nn, by rw [h]; simp⟩
      | _ => cases l
    · have kp : ∀ {B' : Bs} {S' : Hs} {H' : Hp}, Bs.Le ⟨fun b => S b = none ∧ H b ≠ none, H, H⟩ B' → KeepB B' S' H' → Keep S S' H H' := fun {B' S' H'} l k => by
        have k := KeepB.le l k
        exact ⟨fun b o e n => by
          obtain ⟨h1, h2, h3⟩ := k.st b ⟨n, by rw [e]; simp⟩
          exact ⟨h2.trans e, h1⟩, k.hn⟩
      refine wpS_mono (cal_mono n) (fun σ2 S' q B' σ' H' l hr' rs' kb' => q _ _ hr' (kp l kb') ⟨rfl, fun e => by cases e⟩) (fun x S' q B' v H' l hr' kb' rx ho' => q v H' hr' (kp l kb') ⟨rx, ho'⟩) (fun _ _ z => z.elim) (fun _ _ z => z.elim) wp
/-- the law's promise -/
def spLaw (K : Frag) : Sp := fun vs H Q _ => ∃ (a : Addr) (ns : List Int), vs = [.ref a] ∧ Only H ∧ SqL K H a (ns.map V.int) ∧ ns.length ≤ 63 ∧ (∀ z ∈ ns, Builtin.Int.intBits z ≤ 1048576) ∧ ∀ H', Q (.bl true) H'
def Holds2 (L : Inf) (f : Nat) : Prop := ∀ ns : List Int, ns.length ≤ 63 → (∀ z ∈ ns, Builtin.Int.intBits z ≤ 1048576) → cal L.T 100 f [.fz (ns.map D.int)] (fun _ => none) fun r _ => r = .d (.bl true)
theorem law_ok (hL : L.Chk) (X : Facts L K mg adr w) {d : DefI} (hd : d ∈ L.defs) (hps : d.ps = [("script" : Str)]) (h2 : Holds2 L d.id) {fa : Addr} {fd : FuncData} (hf : FunAt L K mg adr d fa fd) : FnOk P w K mg base CX0 200 fa fd ["script"] (spLaw K) := by
  have h := lev (P := P) (w := w) (base := base) hL X 100 d hd fa fd hf
  rw [hps] at h
  refine h.imp fun vs H Q E ⟨a, ns, e, hO, hS, hl, hb, k⟩ => ?_
  subst e
  refine ⟨rfl, fun _ => none, [.fz (ns.map D.int)], (fun b o e => (by cases e)), .cons ⟨a, ns.map V.int, rfl, ?_, RepL.ofInts ns⟩ .nil, cal_mono 100 _ _ _ _ _ (fun x S e v H' hr kk rx => ?_) (h2 ns hl hb)⟩
  · rcases hS with (hS | ⟨o, hS⟩) | hS
    · rcases hO a with z | ⟨o, xs, z⟩
      · rw [z] at hS; cases hS
      · rw [z] at hS; cases hS
    · exact .inl ⟨o, hS, rfl⟩
    · exact .inr (.inr hS)
  · subst e
    cases rx.1
    exact k H'
/-- a def of the top, a method, as they stand -/
theorem at_fun {d : DefI} {h : Heap} (KX : K.In h) (G : h.Ns mainGlobals mg) (hm : d.mt = none) {f : Addr} {oc : Value} {od an : Option Addr} {osl : Array (Option Value)} {kV doc pm cdv ct : Value}
    (a : PySem.W.nsIn K mainGlobals d.name = some (some (.ref f))) (l : K.lookup f = some ⟨oc, od, .func (PySem.W.fnOf d.name d.qual (defArgs d.st) (defBody d.st) (defScope d.st) .none kV doc pm an cdv ct), osl⟩)
    (c : PySem.W.codeIn K cdv d.qual = true) (k : PySem.W.keepIn K (.ref f) = true)
    (hb : ∀ (kV doc pm : Value) (an : Option Addr) (cdv ct : Value) (us : List Value), us.length = d.ps.length → bindArgs (PySem.W.fnOf d.name d.qual (defArgs d.st) (defBody d.st) (defScope d.st) .none kV doc pm an cdv ct) ⟨us, []⟩ = pure (d.ps.zip us)) :
    FunAt L K mg adr d f (PySem.W.fnOf d.name d.qual (defArgs d.st) (defBody d.st) (defScope d.st) .none kV doc pm an cdv ct) :=
  ⟨fun_mk l c k, (fun_mk l c k).binds hb, by rw [hm]; exact ⟨PySem.W.mg_of KX G a, k⟩⟩
theorem at_meth {d : DefI} {ci : Nat} (hm : d.mt = some ci) (hcl : Cls K (adr ci)) (hno : d.name ∉ L.nm.lay ci) {f : Addr} {oc : Value} {od an : Option Addr} {osl : Array (Option Value)} {kV doc pm cdv ct : Value}
    (a : PySem.W.findIn K (.ref (adr ci)) d.name = some (some (.ref f))) (i : PySem.W.isFn K (.ref f) = true) (l : K.lookup f = some ⟨oc, od, .func (PySem.W.fnOf d.name d.qual (defArgs d.st) (defBody d.st) (defScope d.st) .none kV doc pm an cdv ct), osl⟩)
    (c : PySem.W.codeIn K cdv d.qual = true) (k : PySem.W.keepIn K (.ref f) = true)
    (hb : ∀ (kV doc pm : Value) (an : Option Addr) (cdv ct : Value) (us : List Value), us.length = d.ps.length → bindArgs (PySem.W.fnOf d.name d.qual (defArgs d.st) (defBody d.st) (defScope d.st) .none kV doc pm an cdv ct) ⟨us, []⟩ = pure (d.ps.zip us)) :
    FunAt L K mg adr d f (PySem.W.fnOf d.name d.qual (defArgs d.st) (defBody d.st) (defScope d.st) .none kV doc pm an cdv ct) :=
  ⟨fun_mk l c k, (fun_mk l c k).binds hb, by rw [hm]; exact ⟨hcl, ⟨a, i, k⟩, hno⟩⟩
end
theorem walk {l : PySem.W.OpenLaw} {q : Program} {loose : List Str} {XP : (Str → Option Value) → Heap → Prop} {YP : World → Heap → Prop} {d : DefRec} {K : Params → PySem.W.Frag} (hn : l.most = some 63) (hdf : d.params.defaults = [])
    (hY : ∀ (w : World) (h : Heap), YP w h → (K w.params).In h)
    (F : ∀ (w : World) (mg : Str → Option Value) (fa : Addr) (h : Heap), (K w.params).In h → h.Ns mainGlobals mg → mg d.name = some (.ref fa) →
      ∃ fd : FuncData, (∀ (s : Shared) (u : Value), BindsTo s fd ⟨[u], []⟩ [("script", u)]) ∧ ∀ base : Heap, (K w.params).In base → base.Ns mainGlobals mg → FnOk l.prog w (K w.params) mg base CX0 200 fa fd ["script"] (spLaw (K w.params))) :
    PySem.W.WalkO q loose XP YP l.row.toRowW d [] (fun f vs => PySem.call f vs) :=
  L2.walk_ofB (n := 63) (k := 200) (x := "script") (CX := fun _ => CX0) (sp := fun w => spLaw (K w.params)) hn (by decide) hdf ⟨rfl, by decide, by decide⟩ hY F (fun _ H a ns hl hb hO hS => ⟨a, ns, rfl, hO, hS, hl, hb, fun _ => rfl⟩) fun _ _ _ _ _ z => z
end DL

/-! DL18: small words for the end. -/
namespace DL
open PySem L2 PySem.Spec PyProof.Rows
theorem chk_of {L : Inf} (h : L.defs.all (chkD L) = true) (hn : (L.defs.map (·.id)).Nodup) : L.Chk := by
  refine ⟨fun d hd => List.all_eq_true.mp h d hd, fun d hd => ?_⟩
  unfold Inf.df
  clear h
  generalize L.defs = ds at hn hd
  induction ds with
  | nil => cases hd
  | cons e es ih =>
    simp only [List.map_cons, List.nodup_cons] at hn
    rcases List.mem_cons.mp hd with rfl | hd
    · simp [List.find?_cons]
    · have ne : e.id ≠ d.id := fun z => hn.1 (z ▸ List.mem_map_of_mem hd)
      rw [List.find?_cons]
      have : (e.id == d.id) = false := beq_eq_false_iff_ne.mpr ne
      rw [this]
      exact ih hn.2 hd
section
variable {K : Frag} {mg : Str → Option Value} {h : Heap}
theorem blt_of (KX : K.In h) (G : h.Ns mainGlobals mg) (b1 : PySem.W.nsIn K mainGlobals "len" = some none) (b2 : PySem.W.nsIn K mainGlobals "int" = some none) (b3 : PySem.W.nsIn K mainGlobals "str" = some none) (b4 : PySem.W.nsIn K mainGlobals "list" = some none)
    (b5 : PySem.W.nsIn K mainGlobals "tuple" = some none) (b6 : PySem.W.nsIn K mainGlobals "sorted" = some none) (b7 : PySem.W.nsIn K mainGlobals "all" = some none) (b8 : PySem.W.nsIn K mainGlobals "any" = some none)
    (b9 : PySem.W.nsIn K mainGlobals "min" = some none) (b10 : PySem.W.nsIn K mainGlobals "max" = some none) (b11 : PySem.W.nsIn K mainGlobals "range" = some none) (b12 : PySem.W.nsIn K mainGlobals "enumerate" = some none)
    (b13 : PySem.W.nsIn K mainGlobals "zip" = some none) (b14 : PySem.W.nsIn K mainGlobals "isinstance" = some none) (b15 : PySem.W.nsIn K mainGlobals "bool" = some none) (b16 : PySem.W.nsIn K mainGlobals "dict" = some none) (b17 : PySem.W.nsIn K mainGlobals "sum" = some none) (b18 : PySem.W.nsIn K mainGlobals "set" = some none) : ∀ x ∈ bltNames, mg x = none := by
  intro x hx
  unfold bltNames at hx
  simp only [List.mem_cons, List.not_mem_nil, or_false] at hx
  rcases hx with rfl | rfl | rfl | rfl | rfl | rfl | rfl | rfl | rfl | rfl | rfl | rfl | rfl | rfl | rfl | rfl | rfl | rfl
  · exact PySem.W.mg_none_of KX G b1
  · exact PySem.W.mg_none_of KX G b2
  · exact PySem.W.mg_none_of KX G b3
  · exact PySem.W.mg_none_of KX G b4
  · exact PySem.W.mg_none_of KX G b5
  · exact PySem.W.mg_none_of KX G b6
  · exact PySem.W.mg_none_of KX G b7
  · exact PySem.W.mg_none_of KX G b8
  · exact PySem.W.mg_none_of KX G b9
  · exact PySem.W.mg_none_of KX G b10
  · exact PySem.W.mg_none_of KX G b11
  · exact PySem.W.mg_none_of KX G b12
  · exact PySem.W.mg_none_of KX G b13
  · exact PySem.W.mg_none_of KX G b14
  · exact PySem.W.mg_none_of KX G b15
  · exact PySem.W.mg_none_of KX G b16
  · exact PySem.W.mg_none_of KX G b17
  · exact PySem.W.mg_none_of KX G b18
theorem gl_int {cx : Cls2} (KX : K.In h) (G : h.Ns mainGlobals mg) {x : Str} {k : Nat} {i : Int} {t : Tok} (a : PySem.W.nsIn K mainGlobals x = some (some (.int i t))) : ∃ v u, mg ((k, x, Vx.d (.int i)) : Nat × Str × Vx).2.1 = some u ∧ RelV v u ∧ own ((k, x, Vx.d (.int i)) : Nat × Str × Vx).2.2 = false ∧ ∀ S H, Rel K cx S H → RepX K H S ((k, x, Vx.d (.int i)) : Nat × Str × Vx).2.2 v :=
  ⟨.int i, _, PySem.W.mg_of KX G a, ⟨t, rfl⟩, rfl, fun _ _ _ => rfl⟩
theorem rep_strs {K : Frag} {H : Hp} : ∀ ss : List (List Nat), RepL K H (ss.map D.str) (ss.map fun s => V.str (sv s))
  | [] => rfl
  | _ :: ss => ⟨_, _, rfl, rfl, rep_strs ss⟩
/-- a tuple of texts that the top has left -/
theorem gl_tup {cx : Cls2} (KX : K.In h) (G : h.Ns mainGlobals mg) {x : Str} {k : Nat} (ss : List (List Nat)) {a : Addr} {o : Obj} {its : Array Value} {n : Nat} (e : PySem.W.nsIn K mainGlobals x = some (some (.ref a))) (l : K.lookup a = some o) (hc : o.cls = .type "tuple") (hd : o.data = .seq its n)
    (r : Vals (ss.map fun s => V.str (sv s)) its.toList) (z : ss.length ≤ 1000) : ∃ v u, mg ((k, x, Vx.d (.tup (ss.map D.str))) : Nat × Str × Vx).2.1 = some u ∧ RelV v u ∧ own ((k, x, Vx.d (.tup (ss.map D.str))) : Nat × Str × Vx).2.2 = false ∧ ∀ S H, Rel K cx S H → RepX K H S ((k, x, Vx.d (.tup (ss.map D.str))) : Nat × Str × Vx).2.2 v :=
  ⟨.ref a, _, PySem.W.mg_of KX G e, rfl, rfl, fun _ H _ => ⟨a, _, rfl, .inr ⟨o, its, n, l, hc, hd, by
    have := r.length
    simp at this
    have h2 : (1000 : Nat) ≤ sizeLine := by decide
    omega, r⟩, rep_strs ss⟩⟩
end
end DL

namespace LW
open PySem L2 PySem.Spec PyProof.Rows DL
def f_law_well : Fn := ⟨2, 6, (.seq (.set 2 (.o2 .add (.o2 .mul (.i 5) (.v 1)) (.i 3))) (.seq (.iff (.o2 .lt (.v 1) (.o1 .len (.v 0))) (.set 2 (.o2 .idx (.v 0) (.v 1))) .skip) (.seq (.iff (.o2 .eq (.o2 .mod (.v 2) (.i 2)) (.i 0)) (.ret (.lst (.consb (.o2 .fdiv (.v 2) (.i 2)) .nil))) .skip) (.seq (.set 3 (.o2 .mod (.o2 .add (.o2 .add (.o2 .mul (.v 2) (.i 30011)) (.o2 .mul (.i 977) (.v 1))) (.i 41)) (.i 2147483563))) (.seq (.set 4 (.i 0)) (.seq (.for (.nm 5) (.rng (.i 60)) (.seq (.set 3 (.o2 .mod (.o2 .add (.o2 .add (.o2 .add (.o2 .mul (.v 3) (.v 3)) (.o2 .mul (.i 50021) (.v 3))) (.o2 .mul (.i 19) (.v 5))) (.i 7)) (.i 2147483563))) (.seq (.set 4 (.o2 .add (.o2 .mul (.v 4) (.i 2147483563)) (.v 3))) (.seq (.box 4) .skip)))) (.ret (.lst (.consb (.v 4) .nil)))))))))⟩
def f_law_sip : Fn := ⟨2, 3, (.seq (.set 2 (.o2 .mod (.o2 .idx (.v 0) (.i 0)) (.v 1))) (.seq (.seti (.v 0) (.i 0) (.o2 .fdiv (.o2 .idx (.v 0) (.i 0)) (.v 1))) (.retv 2)))⟩
def f_law_whole : Fn := ⟨1, 1, (.ret (.and (.o1 (.isi .int) (.v 0)) (.one (.not (.o1 (.isi .bool) (.v 0))))))⟩
def f_law_mixed : Fn := ⟨2, 5, (.seq (.set 2 (.lrg (.v 1))) (.seq (.box 2) (.seq (.set 3 (.lst .nil)) (.seq (.whl (.o2 .ne (.v 2) (.lst .nil)) (.seq (.set 4 (.call 147 (.cons (.v 0) (.cons (.o1 .len (.v 2)) .nil)))) (.om .append 3 (.consb (.hm .popAt (.v 2) (.cons (.v 4) .nil)) .nil) none))) (.retv 3)))))⟩
def f_Attempt_init : Fn := ⟨2, 2, (.seq (.fset (.v 0) 9 0 (.v 1)) (.seq (.fset (.v 0) 9 1 .dct) (.seq (.fset (.v 0) 9 2 .dct) (.seq (.fset (.v 0) 9 3 (.lst .nil)) (.seq (.fset (.v 0) 9 4 .n) (.fset (.v 0) 9 5 (.b true)))))))⟩
def f_Keeper_init : Fn := ⟨3, 3, (.seq (.fset (.v 0) 10 0 (.v 1)) (.seq (.fset (.v 0) 10 1 (.o1 .list (.v 2))) (.seq (.fset (.v 0) 10 2 (.o2 .mul (.lst (.consb (.i 0) .nil)) (.o1 .len (.v 2)))) (.seq (.fset (.v 0) 10 3 (.o2 .mul (.lst (.consb .n .nil)) (.o1 .len (.v 2)))) (.seq (.fset (.v 0) 10 4 (.i 0)) (.seq (.fset (.v 0) 10 5 .dct) (.fset (.v 0) 10 6 (.lst .nil))))))))⟩
def f_Keeper_open_one : Fn := ⟨2, 2, (.seq (.iff (.or (.o2 .nmem (.v 1) (.fld (.v 0) 10 5)) (.one (.not (.fld (.o2 .idx (.fld (.v 0) 10 5) (.v 1)) 9 5)))) .never .skip) (.ret (.o2 .idx (.fld (.v 0) 10 5) (.v 1))))⟩
def f_Keeper_going_one : Fn := ⟨2, 3, (.seq (.set 2 (.meth 179 (.v 0) (.cons (.v 1) .nil))) (.seq (.iff (.o2 .isnt (.fld (.v 2) 9 4) .n) .never .skip) (.retv 2)))⟩
def f_Keeper_begin : Fn := ⟨2, 2, (.seq (.iff (.o2 .mem (.v 1) (.fld (.v 0) 10 5)) .never .skip) (.seq (.seti (.fld (.v 0) 10 5) (.v 1) (.make 9 (.cons (.fld (.v 0) 10 4) .nil))) (.expr (.hm .append (.fld (.v 0) 10 6) (.consb (.tup (.consb (.s [98, 101, 103, 105, 110]) (.consb (.v 1) .nil))) .nil)))))⟩
def f_Keeper_ends : Fn := ⟨3, 3, (.seq (.fset (.o2 .idx (.fld (.v 0) 10 5) (.v 1)) 9 5 (.b false)) (.expr (.hm .append (.fld (.v 0) 10 6) (.consb (.tup (.consb (.v 2) (.consb (.v 1) .nil))) .nil))))⟩
def f_Keeper_is_free : Fn := ⟨3, 3, (.ret (.or (.o2 .is (.o2 .idx (.fld (.v 0) 10 3) (.v 2)) .n) (.one (.o2 .eq (.o2 .idx (.fld (.v 0) 10 3) (.v 2)) (.v 1)))))⟩
def f_Keeper_is_still : Fn := ⟨2, 4, (.seq (.set 2 (.o2 .idx (.fld (.v 0) 10 5) (.v 1))) (.lock (.ret (.o1 .all (.comp (.nm 3) (.and (.meth 183 (.v 0) (.cons (.v 1) (.cons (.v 3) .nil))) (.one (.o2 .le (.o2 .idx (.fld (.v 0) 10 2) (.v 3)) (.fld (.v 2) 9 0)))) (.itk (.fld (.v 2) 9 1)) (.b true))))))⟩
def f_Keeper_would_fall : Fn := ⟨3, 3, (.seq (.iff (.not (.meth 183 (.v 0) (.cons (.v 1) (.cons (.v 2) .nil)))) (.ret (.b true)) .skip) (.ret (.and (.o2 .gt (.o2 .idx (.fld (.v 0) 10 2) (.v 2)) (.fld (.o2 .idx (.fld (.v 0) 10 5) (.v 1)) 9 0)) (.one (.not (.meth 184 (.v 0) (.cons (.v 1) .nil)))))))⟩
def f_Keeper_look : Fn := ⟨3, 4, (.seq (.set 3 (.meth 180 (.v 0) (.cons (.v 1) .nil))) (.seq (.iff (.o2 .mem (.v 2) (.fld (.v 3) 9 2)) (.seq (.expr (.hm .append (.fld (.v 0) 10 6) (.consb (.tup (.consb (.s [108, 111, 111, 107]) (.consb (.v 1) (.consb (.v 2) (.consb (.o2 .idx (.fld (.v 3) 9 2) (.v 2)) .nil))))) .nil))) (.ret (.tup (.consb (.s [110, 117, 109, 98, 101, 114]) (.consb (.o2 .idx (.fld (.v 3) 9 2) (.v 2)) .nil))))) .skip) (.seq (.iff (.meth 185 (.v 0) (.cons (.v 1) (.cons (.v 2) .nil))) (.seq (.expr (.meth 182 (.v 0) (.cons (.v 1) (.cons (.s [102, 97, 108, 108]) .nil)))) (.ret (.tup (.consb (.s [102, 97, 108, 108, 115]) .nil)))) .skip) (.seq (.iff (.o2 .gt (.o2 .idx (.fld (.v 0) 10 2) (.v 2)) (.fld (.v 3) 9 0)) (.fset (.v 3) 9 0 (.fld (.v 0) 10 4)) .skip) (.seq (.seti (.fld (.v 3) 9 1) (.v 2) (.b true)) (.seq (.expr (.hm .append (.fld (.v 0) 10 6) (.consb (.tup (.consb (.s [108, 111, 111, 107]) (.consb (.v 1) (.consb (.v 2) (.consb (.o2 .idx (.fld (.v 0) 10 1) (.v 2)) .nil))))) .nil))) (.ret (.tup (.consb (.s [110, 117, 109, 98, 101, 114]) (.consb (.o2 .idx (.fld (.v 0) 10 1) (.v 2)) .nil))))))))))⟩
def f_Keeper_put : Fn := ⟨4, 4, (.seq (.seti (.fld (.meth 180 (.v 0) (.cons (.v 1) .nil)) 9 2) (.v 2) (.v 3)) (.expr (.hm .append (.fld (.v 0) 10 6) (.consb (.tup (.consb (.s [112, 117, 116]) (.consb (.v 1) (.consb (.v 2) (.consb (.v 3) .nil))))) .nil))))⟩
def f_Keeper_can_take : Fn := ⟨2, 3, (.lock (.ret (.and (.meth 184 (.v 0) (.cons (.v 1) .nil)) (.one (.o1 .all (.comp (.nm 2) (.meth 183 (.v 0) (.cons (.v 1) (.cons (.v 2) .nil))) (.itk (.fld (.o2 .idx (.fld (.v 0) 10 5) (.v 1)) 9 2)) (.b true)))))))⟩
def f_Keeper_take : Fn := ⟨2, 4, (.seq (.set 2 (.meth 180 (.v 0) (.cons (.v 1) .nil))) (.seq (.iff (.o2 .eq (.fld (.v 2) 9 2) .dct) (.seq (.expr (.meth 182 (.v 0) (.cons (.v 1) (.cons (.s [100, 111, 110, 101]) .nil)))) (.ret (.s [100, 111, 110, 101]))) .skip) (.seq (.iff (.not (.meth 188 (.v 0) (.cons (.v 1) .nil))) (.seq (.expr (.meth 182 (.v 0) (.cons (.v 1) (.cons (.s [102, 97, 108, 108]) .nil)))) (.ret (.s [102, 97, 108, 108, 115]))) .skip) (.seq (.faug (.v 0) 10 4 (.i 1)) (.seq (.fset (.v 2) 9 4 (.fld (.v 0) 10 4)) (.seq (.fset (.v 2) 9 3 (.o1 .sorted (.fld (.v 2) 9 2))) (.seq (.for (.nm 3) (.ite (.fld (.v 2) 9 3)) (.seti (.fld (.v 0) 10 3) (.v 3) (.v 1))) (.ret (.s [116, 97, 107, 101, 110])))))))))⟩
def f_Keeper_write : Fn := ⟨2, 4, (.seq (.set 2 (.meth 179 (.v 0) (.cons (.v 1) .nil))) (.seq (.iff (.o2 .is (.fld (.v 2) 9 4) .n) .never .skip) (.seq (.set 3 (.hm .popAt (.fld (.v 2) 9 3) (.cons (.i 0) .nil))) (.seq (.seti (.fld (.v 0) 10 1) (.v 3) (.o2 .idx (.fld (.v 2) 9 2) (.v 3))) (.seq (.seti (.fld (.v 0) 10 2) (.v 3) (.fld (.v 2) 9 4)) (.seq (.iff (.o2 .ne (.fld (.v 2) 9 3) (.lst .nil)) (.ret (.s [119, 114, 105, 116, 116, 101, 110])) .skip) (.seq (.lock (.for (.nm 3) (.itk (.fld (.v 2) 9 2)) (.seti (.fld (.v 0) 10 3) (.v 3) .n))) (.seq (.expr (.meth 182 (.v 0) (.cons (.v 1) (.cons (.s [100, 111, 110, 101]) .nil)))) (.ret (.s [100, 111, 110, 101]))))))))))⟩
def f_Keeper_fall : Fn := ⟨2, 2, (.seq (.expr (.meth 180 (.v 0) (.cons (.v 1) .nil))) (.expr (.meth 182 (.v 0) (.cons (.v 1) (.cons (.s [102, 97, 108, 108]) .nil)))))⟩
def f_Keeper_log : Fn := ⟨1, 1, (.ret (.o1 .list (.fld (.v 0) 10 6)))⟩
def f_Keeper_order : Fn := ⟨1, 6, (.seq (.set 1 (.lst .nil)) (.seq (.lock (.for (.tp [2, 3]) (.enuk (.fld (.v 0) 10 5)) (.seq (.set 4 (.o2 .idx (.fld (.v 0) 10 5) (.v 3))) (.iff (.o2 .is (.fld (.v 4) 9 4) .n) (.om .append 1 (.consb (.tup (.consb (.fld (.v 4) 9 0) (.consb (.i 1) (.consb (.v 2) (.consb (.v 3) .nil))))) .nil) none) (.om .append 1 (.consb (.tup (.consb (.fld (.v 4) 9 4) (.consb (.i 0) (.consb (.v 2) (.consb (.v 3) .nil))))) .nil) none))))) (.ret (.comp (.nm 5) (.o2 .idx (.v 5) (.i 3)) (.ite (.o1 .sortedN (.v 1))) (.b true)))))⟩
def f_Keeper_now : Fn := ⟨1, 1, (.ret (.o1 .tuple (.fld (.v 0) 10 1)))⟩
def f_Keeper_clock : Fn := ⟨1, 1, (.ret (.fld (.v 0) 10 4))⟩
def f_Keeper_mark : Fn := ⟨2, 2, (.ret (.o2 .idx (.fld (.v 0) 10 2) (.v 1)))⟩
def f_law_world_2 : Fn := ⟨1, 4, (.seq (.set 1 (.o2 .add (.i 1) (.call 147 (.cons (.v 0) (.cons (.o2 .idx (.lst (.consb (.i 2) (.consb (.i 3) (.consb (.i 6) .nil)))) (.call 147 (.cons (.v 0) (.cons (.i 3) .nil)))) .nil))))) (.seq (.box 1) (.seq (.set 2 (.o2 .idx (.lst (.consb (.i 2) (.consb (.i 3) (.consb (.i 7) (.consb (.i 1000) .nil))))) (.call 147 (.cons (.v 0) (.cons (.i 4) .nil))))) (.seq (.box 2) (.ret (.tup (.consb (.tup (.consb (.v 1) (.consb (.v 2) .nil))) (.consb (.o1 .tuple (.comp (.nm 3) (.call 147 (.cons (.v 0) (.cons (.v 2) .nil))) (.rng (.v 1)) (.b true))) .nil))))))))⟩
def f_law_held : Fn := ⟨3, 5, (.seq (.lock (.for (.nm 3) (.itk (.o2 .idx (.v 0) (.s [116, 114, 105, 101, 115]))) (.seq (.set 4 (.o2 .idx (.o2 .idx (.v 0) (.s [116, 114, 105, 101, 115])) (.v 3))) (.iff (.and (.o2 .ne (.v 3) (.v 1)) (.and (.o2 .ne (.o2 .idx (.v 4) (.s [108, 101, 102, 116])) (.lst .nil)) (.one (.o2 .mem (.v 2) (.o2 .idx (.v 4) (.s [112, 117, 116, 115])))))) (.ret (.b true)) .skip)))) (.ret (.b false)))⟩
def f_law_still : Fn := ⟨2, 4, (.seq (.set 2 (.o2 .idx (.o2 .idx (.v 0) (.s [116, 114, 105, 101, 115])) (.v 1))) (.seq (.for (.nm 3) (.ite (.o2 .idx (.v 2) (.s [108, 111, 111, 107, 101, 100]))) (.iff (.or (.call 198 (.cons (.v 0) (.cons (.v 1) (.cons (.v 3) .nil)))) (.one (.o2 .gt (.o2 .idx (.o2 .idx (.v 0) (.s [109, 97, 114, 107, 115])) (.v 3)) (.o2 .idx (.v 2) (.s [103, 108, 97, 110, 99, 101]))))) (.ret (.b false)) .skip)) (.ret (.b true))))⟩
def f_law_model : Fn := ⟨1, 1, (.ret (.dctp (.pr (.s [98, 111, 120, 101, 115]) (.o1 .list (.v 0)) (.pr (.s [109, 97, 114, 107, 115]) (.o2 .mul (.lst (.consb (.i 0) .nil)) (.o1 .len (.v 0))) (.pr (.s [99, 108, 111, 99, 107]) (.i 0) (.pr (.s [116, 114, 105, 101, 115]) .dct (.pr (.s [108, 111, 103]) (.lst .nil) .nil)))))))⟩
def f_law_ended : Fn := ⟨4, 4, (.seq (.seti (.o2 .idx (.o2 .idx (.v 0) (.s [116, 114, 105, 101, 115])) (.v 1)) (.s [111, 112, 101, 110]) (.b false)) (.seq (.expr (.hm .append (.o2 .idx (.v 0) (.s [108, 111, 103])) (.consb (.tup (.consb (.v 2) (.consb (.v 1) .nil))) .nil))) (.retv 3)))⟩
def f_law_look : Fn := ⟨3, 5, (.seq (.set 3 (.o2 .idx (.o2 .idx (.v 0) (.s [116, 114, 105, 101, 115])) (.v 1))) (.seq (.set 4 (.o2 .idx (.o2 .idx (.v 0) (.s [98, 111, 120, 101, 115])) (.v 2))) (.seq (.box 4) (.seq (.iff (.o2 .mem (.v 2) (.o2 .idx (.v 3) (.s [112, 117, 116, 115]))) (.seq (.set 4 (.o2 .idx (.o2 .idx (.v 3) (.s [112, 117, 116, 115])) (.v 2))) (.seq (.box 4) .skip)) (.iff (.or (.call 198 (.cons (.v 0) (.cons (.v 1) (.cons (.v 2) .nil)))) (.one (.and (.o2 .gt (.o2 .idx (.o2 .idx (.v 0) (.s [109, 97, 114, 107, 115])) (.v 2)) (.o2 .idx (.v 3) (.s [103, 108, 97, 110, 99, 101]))) (.one (.not (.call 199 (.cons (.v 0) (.cons (.v 1) .nil)))))))) (.ret (.call 201 (.cons (.v 0) (.cons (.v 1) (.cons (.s [102, 97, 108, 108]) (.cons (.tup (.consb (.s [102, 97, 108, 108, 115]) .nil)) .nil)))))) (.seq (.iff (.o2 .gt (.o2 .idx (.o2 .idx (.v 0) (.s [109, 97, 114, 107, 115])) (.v 2)) (.o2 .idx (.v 3) (.s [103, 108, 97, 110, 99, 101]))) (.seti (.v 3) (.s [103, 108, 97, 110, 99, 101]) (.o2 .idx (.v 0) (.s [99, 108, 111, 99, 107]))) .skip) (.expr (.hm .append (.o2 .idx (.v 3) (.s [108, 111, 111, 107, 101, 100])) (.consb (.v 2) .nil)))))) (.seq (.expr (.hm .append (.o2 .idx (.v 0) (.s [108, 111, 103])) (.consb (.tup (.consb (.s [108, 111, 111, 107]) (.consb (.v 1) (.consb (.v 2) (.consb (.v 4) .nil))))) .nil))) (.ret (.tup (.consb (.s [110, 117, 109, 98, 101, 114]) (.consb (.v 4) .nil)))))))))⟩
def f_law_take_2 : Fn := ⟨2, 4, (.seq (.set 2 (.o2 .idx (.o2 .idx (.v 0) (.s [116, 114, 105, 101, 115])) (.v 1))) (.seq (.iff (.o2 .eq (.o2 .idx (.v 2) (.s [112, 117, 116, 115])) .dct) (.ret (.call 201 (.cons (.v 0) (.cons (.v 1) (.cons (.s [100, 111, 110, 101]) (.cons (.s [100, 111, 110, 101]) .nil)))))) .skip) (.seq (.iff (.or (.not (.call 199 (.cons (.v 0) (.cons (.v 1) .nil)))) (.one (.o1 .any (.lockE (.comp (.nm 3) (.call 198 (.cons (.v 0) (.cons (.v 1) (.cons (.v 3) .nil)))) (.itk (.o2 .idx (.v 2) (.s [112, 117, 116, 115]))) (.b true)))))) (.ret (.call 201 (.cons (.v 0) (.cons (.v 1) (.cons (.s [102, 97, 108, 108]) (.cons (.s [102, 97, 108, 108, 115]) .nil)))))) .skip) (.seq (.seti (.v 0) (.s [99, 108, 111, 99, 107]) (.o2 .add (.o2 .idx (.v 0) (.s [99, 108, 111, 99, 107])) (.i 1))) (.seq (.seti (.v 2) (.s [115, 116, 97, 109, 112]) (.o2 .idx (.v 0) (.s [99, 108, 111, 99, 107]))) (.seq (.seti (.v 2) (.s [108, 101, 102, 116]) (.o1 .sorted (.o2 .idx (.v 2) (.s [112, 117, 116, 115])))) (.ret (.s [116, 97, 107, 101, 110]))))))))⟩
def f_law_write : Fn := ⟨2, 4, (.seq (.set 2 (.o2 .idx (.o2 .idx (.v 0) (.s [116, 114, 105, 101, 115])) (.v 1))) (.seq (.set 3 (.hm .popAt (.o2 .idx (.v 2) (.s [108, 101, 102, 116])) (.cons (.i 0) .nil))) (.seq (.seti (.o2 .idx (.v 0) (.s [98, 111, 120, 101, 115])) (.v 3) (.o2 .idx (.o2 .idx (.v 2) (.s [112, 117, 116, 115])) (.v 3))) (.seq (.seti (.o2 .idx (.v 0) (.s [109, 97, 114, 107, 115])) (.v 3) (.o2 .idx (.v 2) (.s [115, 116, 97, 109, 112]))) (.seq (.iff (.o2 .ne (.o2 .idx (.v 2) (.s [108, 101, 102, 116])) (.lst .nil)) (.ret (.s [119, 114, 105, 116, 116, 101, 110])) .skip) (.ret (.call 201 (.cons (.v 0) (.cons (.v 1) (.cons (.s [100, 111, 110, 101]) (.cons (.s [100, 111, 110, 101]) .nil)))))))))))⟩
def f_law_call : Fn := ⟨2, 4, (.seq (.setT [2, 3] (.slc (.v 1) .n (.i 2))) (.seq (.iff (.o2 .eq (.v 2) (.s [98, 101, 103, 105, 110])) (.seq (.iff (.o2 .mem (.v 3) (.o2 .idx (.v 0) (.s [116, 114, 105, 101, 115]))) (.ret (.s [110, 111, 97, 116, 116, 101, 109, 112, 116])) .skip) (.seq (.seti (.o2 .idx (.v 0) (.s [116, 114, 105, 101, 115])) (.v 3) (.dctp (.pr (.s [103, 108, 97, 110, 99, 101]) (.o2 .idx (.v 0) (.s [99, 108, 111, 99, 107])) (.pr (.s [108, 111, 111, 107, 101, 100]) (.lst .nil) (.pr (.s [112, 117, 116, 115]) .dct (.pr (.s [108, 101, 102, 116]) (.lst .nil) (.pr (.s [115, 116, 97, 109, 112]) (.o1 .neg (.i 1)) (.pr (.s [111, 112, 101, 110]) (.b true) .nil)))))))) (.seq (.expr (.hm .append (.o2 .idx (.v 0) (.s [108, 111, 103])) (.consb (.v 1) .nil))) (.ret .n)))) .skip) (.seq (.iff (.or (.o2 .nmem (.v 3) (.o2 .idx (.v 0) (.s [116, 114, 105, 101, 115]))) (.one (.not (.o2 .idx (.o2 .idx (.o2 .idx (.v 0) (.s [116, 114, 105, 101, 115])) (.v 3)) (.s [111, 112, 101, 110]))))) (.ret (.s [110, 111, 97, 116, 116, 101, 109, 112, 116])) .skip) (.seq (.iff (.o2 .ne (.o2 .ge (.o2 .idx (.o2 .idx (.o2 .idx (.v 0) (.s [116, 114, 105, 101, 115])) (.v 3)) (.s [115, 116, 97, 109, 112])) (.i 0)) (.o2 .eq (.v 2) (.s [119, 114, 105, 116, 101]))) (.ret (.s [110, 111, 115, 116, 101, 112])) .skip) (.seq (.iff (.o2 .eq (.v 2) (.s [108, 111, 111, 107])) (.ret (.call 202 (.cons (.v 0) (.cons (.v 3) (.cons (.o2 .idx (.v 1) (.i 2)) .nil))))) .skip) (.seq (.iff (.o2 .eq (.v 2) (.s [116, 97, 107, 101])) (.ret (.call 203 (.cons (.v 0) (.cons (.v 3) .nil)))) .skip) (.seq (.iff (.o2 .eq (.v 2) (.s [119, 114, 105, 116, 101])) (.ret (.call 204 (.cons (.v 0) (.cons (.v 3) .nil)))) .skip) (.seq (.iff (.o2 .eq (.v 2) (.s [102, 97, 108, 108])) (.ret (.call 201 (.cons (.v 0) (.cons (.v 3) (.cons (.s [102, 97, 108, 108]) (.cons .n .nil)))))) .skip) (.seq (.seti (.o2 .idx (.o2 .idx (.o2 .idx (.v 0) (.s [116, 114, 105, 101, 115])) (.v 3)) (.s [112, 117, 116, 115])) (.o2 .idx (.v 1) (.i 2)) (.o2 .idx (.v 1) (.i 3))) (.seq (.expr (.hm .append (.o2 .idx (.v 0) (.s [108, 111, 103])) (.consb (.v 1) .nil))) (.ret .n)))))))))))⟩
def f_law_order : Fn := ⟨1, 6, (.seq (.set 1 (.lst .nil)) (.seq (.lock (.for (.tp [2, 3]) (.enuk (.o2 .idx (.v 0) (.s [116, 114, 105, 101, 115]))) (.seq (.set 4 (.o2 .idx (.o2 .idx (.v 0) (.s [116, 114, 105, 101, 115])) (.v 3))) (.om .append 1 (.consb (.o2 .idx (.lst (.consb (.tup (.consb (.o2 .idx (.v 4) (.s [103, 108, 97, 110, 99, 101])) (.consb (.i 1) (.consb (.v 2) (.consb (.v 3) .nil))))) (.consb (.tup (.consb (.o2 .idx (.v 4) (.s [115, 116, 97, 109, 112])) (.consb (.i 0) (.consb (.v 2) (.consb (.v 3) .nil))))) .nil))) (.o1 .int (.o2 .ge (.o2 .idx (.v 4) (.s [115, 116, 97, 109, 112])) (.i 0)))) .nil) none)))) (.ret (.comp (.nm 5) (.o2 .idx (.v 5) (.i 3)) (.ite (.o1 .sortedN (.v 1))) (.b true)))))⟩
def f_law_asked_2 : Fn := ⟨2, 8, (.seq (.setT [2, 3] (.slc (.v 1) .n (.i 2))) (.seq (.set 4 .n) (.seq (.set 5 .n) (.seq (.tryp (.iff (.o2 .eq (.v 2) (.s [98, 101, 103, 105, 110])) (.set 4 (.meth 181 (.v 0) (.cons (.v 3) .nil))) (.iff (.o2 .eq (.v 2) (.s [108, 111, 111, 107])) (.set 4 (.meth 186 (.v 0) (.cons (.v 3) (.cons (.o2 .idx (.v 1) (.i 2)) .nil)))) (.iff (.o2 .eq (.v 2) (.s [112, 117, 116])) (.set 4 (.meth 187 (.v 0) (.cons (.v 3) (.cons (.o2 .idx (.v 1) (.i 2)) (.cons (.o2 .idx (.v 1) (.i 3)) .nil))))) (.iff (.o2 .eq (.v 2) (.s [116, 97, 107, 101])) (.set 4 (.meth 189 (.v 0) (.cons (.v 3) .nil))) (.iff (.o2 .eq (.v 2) (.s [119, 114, 105, 116, 101])) (.set 4 (.meth 190 (.v 0) (.cons (.v 3) .nil))) (.set 4 (.meth 191 (.v 0) (.cons (.v 3) .nil))))))))) (.seq (.iff (.o2 .is (.v 5) .n) (.retv 4) .skip) .never)))))⟩
def f_law_drawn_call : Fn := ⟨4, 9, (.seq (.lock (.set 4 (.comp (.nm 5) (.v 5) (.itk (.o2 .idx (.v 2) (.s [116, 114, 105, 101, 115]))) (.o2 .idx (.o2 .idx (.o2 .idx (.v 2) (.s [116, 114, 105, 101, 115])) (.v 5)) (.s [111, 112, 101, 110]))))) (.seq (.set 6 (.o1 .len (.o2 .idx (.v 2) (.s [116, 114, 105, 101, 115])))) (.seq (.iff (.and (.o2 .lt (.v 6) (.v 3)) (.one (.or (.o2 .eq (.v 4) (.lst .nil)) (.one (.o2 .eq (.call 147 (.cons (.v 0) (.cons (.i 5) .nil))) (.i 0)))))) (.ret (.tup (.consb (.s [98, 101, 103, 105, 110]) (.consb (.o2 .mod (.o2 .mul (.v 6) (.i 3)) (.v 3)) .nil)))) .skip) (.seq (.iff (.o2 .eq (.v 4) (.lst .nil)) (.ret .n) .skip) (.seq (.set 5 (.o2 .idx (.v 4) (.call 147 (.cons (.v 0) (.cons (.o1 .len (.v 4)) .nil))))) (.seq (.box 5) (.seq (.set 7 (.call 147 (.cons (.v 0) (.cons (.o2 .idx (.v 1) (.i 0)) .nil)))) (.seq (.box 7) (.seq (.iff (.o2 .ge (.o2 .idx (.o2 .idx (.o2 .idx (.v 2) (.s [116, 114, 105, 101, 115])) (.v 5)) (.s [115, 116, 97, 109, 112])) (.i 0)) (.ret (.tup (.consb (.s [119, 114, 105, 116, 101]) (.consb (.v 5) .nil)))) .skip) (.seq (.set 8 (.call 147 (.cons (.v 0) (.cons (.i 16) .nil)))) (.seq (.iff (.o2 .lt (.v 8) (.i 7)) (.ret (.tup (.consb (.s [108, 111, 111, 107]) (.consb (.v 5) (.consb (.v 7) .nil))))) .skip) (.seq (.iff (.o2 .lt (.v 8) (.i 11)) (.ret (.tup (.consb (.s [112, 117, 116]) (.consb (.v 5) (.consb (.v 7) (.consb (.call 147 (.cons (.v 0) (.cons (.o2 .idx (.v 1) (.i 1)) .nil))) .nil)))))) .skip) (.ret (.o2 .idx (.lst (.consb (.tup (.consb (.s [116, 97, 107, 101]) (.consb (.v 5) .nil))) (.consb (.tup (.consb (.s [102, 97, 108, 108]) (.consb (.v 5) .nil))) .nil))) (.o1 .int (.o2 .eq (.v 8) (.i 15)))))))))))))))))⟩
def f_law_stands : Fn := ⟨2, 8, (.seq (.set 2 (.comp (.nm 3) (.meth 196 (.v 0) (.cons (.v 3) .nil)) (.rng (.o1 .len (.o2 .idx (.v 1) (.s [109, 97, 114, 107, 115])))) (.b true))) (.seq (.iff (.or (.o2 .ne (.meth 194 (.v 0) .nil) (.o1 .tuple (.o2 .idx (.v 1) (.s [98, 111, 120, 101, 115])))) (.or (.o2 .ne (.v 2) (.o2 .idx (.v 1) (.s [109, 97, 114, 107, 115]))) (.one (.o2 .ne (.meth 195 (.v 0) .nil) (.o2 .idx (.v 1) (.s [99, 108, 111, 99, 107])))))) (.ret (.b false)) .skip) (.seq (.iff (.not (.o1 .all (.comp (.nm 4) (.call 148 (.cons (.v 4) .nil)) (.ite (.o2 .add (.v 2) (.lst (.consb (.meth 195 (.v 0) .nil) .nil)))) (.b true)))) (.ret (.b false)) .skip) (.seq (.for (.nm 5) (.rng (.i 2)) (.seq (.set 6 (.meth 192 (.v 0) .nil)) (.seq (.set 7 (.meth 193 (.v 0) .nil)) (.seq (.iff (.or (.not (.o1 (.isi .list) (.v 6))) (.or (.o2 .ne (.v 6) (.o2 .idx (.v 1) (.s [108, 111, 103]))) (.one (.not (.o1 (.isi .list) (.v 7)))))) (.ret (.b false)) .skip) (.seq (.iff (.o2 .ne (.v 7) (.call 206 (.cons (.v 1) .nil))) (.ret (.b false)) .skip) (.seq (.om .append 6 (.consb (.tup (.consb (.s [98, 101, 103, 105, 110]) (.consb (.i 99) .nil))) .nil) none) (.om .append 7 (.consb (.i 99) .nil) none))))))) (.ret (.b true))))))⟩
def f_law_goes : Fn := ⟨6, 11, (.seq (.setT [6, 7, 8] (.o2 .idx (.v 4) (.v 5))) (.seq (.set 9 (.o2 .idx (.v 7) (.call 147 (.cons (.v 0) (.cons (.o1 .len (.v 7)) .nil))))) (.seq (.box 9) (.seq (.iff (.o2 .eq (.v 6) (.s [111, 102, 102])) (.seq (.seti (.v 4) (.v 5) (.tup (.consb (.s [111, 110]) (.consb (.v 7) (.consb (.v 8) .nil))))) (.ret (.o2 .is (.meth 181 (.v 3) (.cons (.v 5) .nil)) .n))) .skip) (.seq (.set 10 (.call 147 (.cons (.v 0) (.cons (.i 9) .nil)))) (.seq (.iff (.o2 .lt (.v 10) (.i 4)) (.ret (.o2 .eq (.meth 186 (.v 3) (.cons (.v 5) (.cons (.v 9) .nil))) (.tup (.consb (.s [110, 117, 109, 98, 101, 114]) (.consb (.get2 (.v 8) (.v 9) (.o2 .idx (.v 2) (.v 9))) .nil))))) .skip) (.seq (.iff (.o2 .lt (.v 10) (.i 7)) (.seq (.seti (.v 8) (.v 9) (.call 147 (.cons (.v 0) (.cons (.o2 .idx (.v 1) (.i 1)) .nil)))) (.ret (.o2 .is (.meth 187 (.v 3) (.cons (.v 5) (.cons (.v 9) (.cons (.o2 .idx (.v 8) (.v 9)) .nil)))) .n))) .skip) (.ret (.call 229 (.cons (.v 3) (.cons (.v 4) (.cons (.v 5) .nil))))))))))))⟩
def f_law_ends : Fn := ⟨3, 8, (.seq (.setT [3, 4, 5] (.dpop (.v 1) (.v 2))) (.seq (.iff (.o2 .eq (.v 5) .dct) (.ret (.o2 .eq (.meth 189 (.v 0) (.cons (.v 2) .nil)) (.s [100, 111, 110, 101]))) .skip) (.seq (.iff (.o2 .ne (.meth 189 (.v 0) (.cons (.v 2) .nil)) (.s [116, 97, 107, 101, 110])) (.ret (.b false)) .skip) (.seq (.lock (.set 6 (.comp (.nm 7) (.meth 190 (.v 0) (.cons (.v 2) .nil)) (.itk (.v 5)) (.b true)))) (.ret (.o2 .eq (.v 6) (.o2 .add (.o2 .mul (.lst (.consb (.s [119, 114, 105, 116, 116, 101, 110]) .nil)) (.o2 .sub (.o1 .len (.v 5)) (.i 1))) (.lst (.consb (.s [100, 111, 110, 101]) .nil)))))))))⟩
def f_law_35 : Fn := ⟨1, 16, (.seq (.for (.nm 1) (.rng (.o2 .max (.i 2) (.o2 .min (.i 5) (.o1 .len (.v 0))))) (.seq (.set 2 (.call 146 (.cons (.v 0) (.cons (.v 1) .nil)))) (.seq (.box 2) (.seq (.set 3 (.o2 .add (.i 2) (.call 147 (.cons (.v 2) (.cons (.i 5) .nil))))) (.seq (.box 3) (.seq (.set 4 (.tup (.consb (.v 3) (.consb (.o2 .idx (.lst (.consb (.i 2) (.consb (.i 3) (.consb (.i 7) (.consb (.i 1000) .nil))))) (.call 147 (.cons (.v 2) (.cons (.i 4) .nil)))) .nil)))) (.seq (.set 5 (.o1 .tuple (.comp (.nm 6) (.call 147 (.cons (.v 2) (.cons (.o2 .idx (.v 4) (.i 1)) .nil))) (.rng (.v 3)) (.b true)))) (.seq (.set 7 (.o2 .add (.i 2) (.call 147 (.cons (.v 2) (.cons (.o2 .min (.i 3) (.o2 .sub (.v 3) (.i 1))) .nil))))) (.seq (.set 8 (.make 10 (.cons (.v 4) (.cons (.v 5) .nil)))) (.seq (.set 9 .dct) (.seq (.box 9) (.seq (.for (.nm 10) (.rng (.v 7)) (.seti (.v 9) (.v 10) (.tup (.consb (.s [111, 102, 102]) (.consb (.comp (.nm 6) (.v 6) (.rng (.v 3)) (.o2 .eq (.o2 .mod (.v 6) (.v 7)) (.v 10))) (.consb .dct .nil)))))) (.seq (.set 11 (.comp (.nm 10) (.o2 .idx (.o2 .idx (.v 9) (.v 10)) (.i 2)) (.rng (.v 7)) (.b true))) (.seq (.for (.nm 12) (.rng (.i 80)) (.seq (.set 13 (.o1 .listK (.v 9))) (.seq (.iff (.o2 .eq (.v 13) (.lst .nil)) .brk .skip) (.seq (.set 10 (.o2 .idx (.v 13) (.call 147 (.cons (.v 2) (.cons (.o1 .len (.v 13)) .nil))))) (.seq (.box 10) (.iff (.not (.call 228 (.cons (.v 2) (.cons (.v 4) (.cons (.v 5) (.cons (.v 8) (.cons (.v 9) (.cons (.v 10) .nil)))))))) (.ret (.b false)) .skip)))))) (.seq (.for (.nm 10) (.ite (.o1 .listK (.v 9))) (.iff (.and (.o2 .eq (.o2 .idx (.o2 .idx (.v 9) (.v 10)) (.i 0)) (.s [111, 110])) (.one (.not (.call 229 (.cons (.v 8) (.cons (.v 9) (.cons (.v 10) .nil))))))) (.ret (.b false)) .skip)) (.seq (.set 14 (.o1 .list (.v 5))) (.seq (.for (.nm 15) (.itv 11) (.lock (.for (.nm 6) (.itk (.v 15)) (.oseti 14 (.v 6) (.o2 .idx (.v 15) (.v 6)))))) (.iff (.o2 .ne (.meth 194 (.v 8) .nil) (.o1 .tuple (.v 14))) (.ret (.b false)) .skip)))))))))))))))))) (.ret (.b true)))⟩
def f_law_next_2 : Fn := ⟨3, 7, (.seq (.lock (.set 3 (.comp (.nm 4) (.v 4) (.itk (.v 2)) (.o2 .ne (.o2 .idx (.v 2) (.v 4)) (.s [111, 102, 102]))))) (.seq (.iff (.and (.o2 .lt (.o1 .len (.v 2)) (.i 6)) (.one (.or (.o2 .eq (.v 3) (.lst .nil)) (.one (.o2 .eq (.call 147 (.cons (.v 0) (.cons (.i 5) .nil))) (.i 0)))))) (.seq (.seti (.v 2) (.o1 .len (.v 2)) (.s [111, 110])) (.ret (.tup (.consb (.s [98, 101, 103, 105, 110]) (.consb (.o2 .sub (.o1 .len (.v 2)) (.i 1)) .nil))))) .skip) (.seq (.iff (.o2 .eq (.v 3) (.lst .nil)) (.ret .n) .skip) (.seq (.set 4 (.o2 .idx (.v 3) (.call 147 (.cons (.v 0) (.cons (.o1 .len (.v 3)) .nil))))) (.seq (.box 4) (.seq (.set 5 (.call 147 (.cons (.v 0) (.cons (.o2 .idx (.v 1) (.i 0)) .nil)))) (.seq (.box 5) (.seq (.iff (.o2 .eq (.o2 .idx (.v 2) (.v 4)) (.s [116, 97, 107, 101, 110])) (.ret (.tup (.consb (.s [119, 114, 105, 116, 101]) (.consb (.v 4) .nil)))) .skip) (.seq (.set 6 (.call 147 (.cons (.v 0) (.cons (.i 12) .nil)))) (.seq (.iff (.o2 .lt (.v 6) (.i 6)) (.ret (.tup (.consb (.s [108, 111, 111, 107]) (.consb (.v 4) (.consb (.v 5) .nil))))) .skip) (.seq (.iff (.o2 .lt (.v 6) (.i 9)) (.ret (.tup (.consb (.s [112, 117, 116]) (.consb (.v 4) (.consb (.v 5) (.consb (.call 147 (.cons (.v 0) (.cons (.o2 .idx (.v 1) (.i 1)) .nil))) .nil)))))) .skip) (.ret (.tup (.consb (.s [116, 97, 107, 101]) (.consb (.v 4) .nil)))))))))))))))⟩
def f_law_put_to : Fn := ⟨2, 4, (.seq (.setT [2, 3] (.slc (.v 1) .n (.i 2))) (.seq (.iff (.o2 .eq (.v 2) (.s [98, 101, 103, 105, 110])) (.ret (.meth 181 (.v 0) (.cons (.v 3) .nil))) .skip) (.seq (.iff (.o2 .eq (.v 2) (.s [108, 111, 111, 107])) (.ret (.meth 186 (.v 0) (.cons (.v 3) (.cons (.o2 .idx (.v 1) (.i 2)) .nil)))) .skip) (.seq (.iff (.o2 .eq (.v 2) (.s [112, 117, 116])) (.ret (.meth 187 (.v 0) (.cons (.v 3) (.cons (.o2 .idx (.v 1) (.i 2)) (.cons (.o2 .idx (.v 1) (.i 3)) .nil))))) .skip) (.seq (.iff (.o2 .eq (.v 2) (.s [116, 97, 107, 101])) (.ret (.meth 189 (.v 0) (.cons (.v 3) .nil))) .skip) (.ret (.meth 190 (.v 0) (.cons (.v 3) .nil))))))))⟩
def f_law_all_2 : Fn := ⟨2, 3, (.ret (.tup (.consb (.meth 194 (.v 0) .nil) (.consb (.meth 195 (.v 0) .nil) (.consb (.comp (.nm 2) (.meth 196 (.v 0) (.cons (.v 2) .nil)) (.rng (.v 1)) (.b true)) (.consb (.meth 192 (.v 0) .nil) (.consb (.meth 193 (.v 0) .nil) .nil)))))))⟩
end LW
/-! U1: the tools of the plain side, in a namespace of their own. -/
namespace LU
open PySem L2 PySem.Spec PyProof.Rows DL LW
theorem cut_map {α β : Type} (f : α → β) (xs : List α) (lo hi : Option Int) : cutI (xs.map f) lo hi = (cutI xs lo hi).map f := by
  unfold cutI
  simp [List.map_drop, List.map_take]
theorem forL_inv {tg : Tg} {ok : SK2} {body : SK2 → SK2} {nx : SK2} (I : SK2) (hok : ∀ σ S, I σ S → ok σ S) (hend : ∀ σ S, I σ S → nx σ S) : ∀ (xs : List D), (∀ x ∈ xs, ∀ (k : SK2) σ S, (∀ σ S, I σ S → k σ S) → I σ S → bindT tg x σ fun σ' => body k σ' S) → ∀ σ S, I σ S → forL tg ok body nx xs σ S
  | [], _, σ, S, i => ⟨hok _ _ i, hend _ _ i⟩
  | x :: xs, h, σ, S, i => ⟨hok _ _ i, h x List.mem_cons_self _ σ S (forL_inv I hok hend xs fun y hy => h y (List.mem_cons_of_mem _ hy)) i⟩
theorem compL_inv {tg : Tg} {ok : Sl → Hs → Prop} {elt : Sl → Hs → (D → Hs → Prop) → Prop} {tst : Sl → Hs → (Bool → Hs → Prop) → Prop} {σ : Sl} {K : List D → Hs → Prop} (I : List D → Hs → Prop) (N : Nat) (hok : ∀ acc S, I acc S → ok σ S) (hN : N ≤ sizeLine) (fin : ∀ acc S, acc.length = N → I acc S → K acc S) :
    ∀ (xs : List D), (∀ x ∈ xs, ∀ acc S, I acc S → ∀ (P1 : D → Hs → Prop) (P2 : Hs → Prop), (∀ y S2, I (acc ++ [y]) S2 → P1 y S2) → bindT tg x σ fun σ' => tst σ' S fun b S1 => Br b (elt σ' S1 P1) (P2 S1)) → ∀ acc S, acc.length + xs.length = N → I acc S → compL tg ok elt tst σ xs acc S K
  | [], _, acc, S, e, i => ⟨hok _ _ i, fin _ _ (by simpa using e) i⟩
  | x :: xs, h, acc, S, e, i => ⟨hok _ _ i, h x List.mem_cons_self acc S i _ _ fun y S2 i2 => ⟨by simp at e; omega, compL_inv I N hok hN fin xs (fun y hy => h y (List.mem_cons_of_mem _ hy)) _ S2 (by simp at e ⊢; omega) i2⟩⟩
theorem compL_map {tg : Tg} {ok : Sl → Hs → Prop} {elt : Sl → Hs → (D → Hs → Prop) → Prop} {tst : Sl → Hs → (Bool → Hs → Prop) → Prop} {σ : Sl} {K : List D → Hs → Prop} (f : D → D) {S : Hs} (hok : ok σ S) :
    ∀ (xs acc : List D), (∀ x ∈ xs, ∀ (P1 : D → Hs → Prop) (P2 : Hs → Prop), P1 (f x) S → bindT tg x σ fun σ' => tst σ' S fun b S1 => Br b (elt σ' S1 P1) (P2 S1)) → acc.length + xs.length ≤ sizeLine → K (acc ++ xs.map f) S → compL tg ok elt tst σ xs acc S K
  | [], acc, _, _, k => ⟨hok, by simpa using k⟩
  | x :: xs, acc, h, hl, k => ⟨hok, h x List.mem_cons_self _ _ ⟨by simp at hl; omega, compL_map f hok xs (acc ++ [f x]) (fun y hy => h y (List.mem_cons_of_mem _ hy)) (by simp at hl ⊢; omega) (by simpa using k)⟩⟩
theorem rngD_len : ∀ (n : Nat) (lo : Int), (rngD lo n).length = n
  | 0, _ => rfl
  | n + 1, lo => by simp [rngD, rngD_len n]
theorem whl_inv {t : Sl → Hs → (Bool → Hs → Prop) → Prop} {body : (Sl → Hs → Prop) → Sl → Hs → Prop} {nx : Sl → Hs → Prop} (I : Nat → Sl → Hs → Prop)
    (step : ∀ m σ S (k : SK2), (∀ m' σ' S', m' < m → I m' σ' S' → k σ' S') → I m σ S → t σ S fun b S1 => Br b (body k σ S1) (nx σ S1)) {m : Nat} {σ : Sl} {S : Hs} (i : I m σ S) : ∃ n, whlN t body nx n σ S := by
  have key : ∀ n m σ S, m < n → I m σ S → whlN t body nx n σ S := by
    intro n
    induction n with
    | zero => intro m σ S h; omega
    | succ n ih => exact fun m σ S h i => step m σ S _ (fun m' σ' S' hm i' => ih m' σ' S' (by omega) i') i
  exact ⟨m + 1, key _ _ _ _ (Nat.lt_succ_self _) i⟩
theorem Br.dec {p : Prop} [h : Decidable p] {A B : Prop} (a : p → A) (b : ¬ p → B) : Br (decide p) A B := ⟨fun e => a (of_decide_eq_true e), fun e => b (of_decide_eq_false e)⟩
theorem Br.ndec {p : Prop} [h : Decidable p] {A B : Prop} (a : ¬ p → A) (b : p → B) : Br (!decide p) A B := ⟨fun e => a (by simpa using e), fun e => b (by simpa using e)⟩
theorem Br.tt {A B : Prop} (a : A) : Br true A B := ⟨fun _ => a, fun e => by cases e⟩
theorem Br.ff {A B : Prop} (b : B) : Br false A B := ⟨fun e => (by cases e), fun _ => b⟩
theorem Br.of {k : Bool} {A B : Prop} (b : Bool) (e : k = b) (h : if b = true then A else B) : Br k A B := by
  subst e
  cases k
  · exact Br.ff (by simpa using h)
  · exact Br.tt (by simpa using h)
theorem forL_map {α : Type} {tg : Tg} {ok : SK2} {body : SK2 → SK2} {nx : SK2} (f : α → D) {xs : List α} (I : List α → SK2) (hok : ∀ l σ S, I l σ S → ok σ S) (hend : ∀ σ S, I [] σ S → nx σ S)
    (step : ∀ x rest, x ∈ xs → (∃ pre, xs = pre ++ x :: rest) → ∀ (k : SK2) σ S, (∀ σ S, I rest σ S → k σ S) → I (x :: rest) σ S → bindT tg (f x) σ fun σ' => body k σ' S) : ∀ σ S, I xs σ S → forL tg ok body nx (xs.map f) σ S := by
  have key : ∀ post pre, xs = pre ++ post → ∀ σ S, I post σ S → forL tg ok body nx (post.map f) σ S := by
    intro post
    induction post with
    | nil => intro pre e σ S i; exact ⟨hok _ _ _ i, hend _ _ i⟩
    | cons x post ih => exact fun pre e σ S i => ⟨hok _ _ _ i, step x post (by rw [e]; simp) ⟨pre, e⟩ _ σ S (fun σ S => ih (pre ++ [x]) (by rw [e]; simp) σ S) i⟩
  exact key xs [] rfl
theorem pls_ints (n : Nat) (l : List Int) : pls n (l.map D.int) = true := by
  induction l with
  | nil => simp [pls]
  | cons x l ih => simp only [List.map_cons, pls, ih, Bool.and_true]; cases n <;> rfl
theorem any_ints (l : List Int) (x : Int) : ((l.map D.int).any fun y => eqB y (.int x)) = decide (x ∈ l) := by
  induction l with
  | nil => rfl
  | cons y l ih =>
    rw [List.map_cons, List.any_cons, ih]
    show (decide (y = x) || decide (x ∈ l)) = _
    by_cases e : y = x
    · subst e; simp
    · have : ¬ x = y := fun q => e q.symm
      simp [e, this]
theorem forL_enum {α : Type} {tg : Tg} {ok : SK2} {body : SK2 → SK2} {nx : SK2} (f : α → D) {xs : List α} (I : Nat → List α → SK2) (hok : ∀ n l σ S, I n l σ S → ok σ S) (hend : ∀ n σ S, I n [] σ S → nx σ S)
    (step : ∀ n x rest, x ∈ xs → ∀ (k : SK2) σ S, (∀ σ S, I (n + 1) rest σ S → k σ S) → I n (x :: rest) σ S → bindT tg (.tup [.int (n : Int), f x]) σ fun σ' => body k σ' S) : ∀ σ S, I 0 xs σ S → forL tg ok body nx (enumD 0 (xs.map f)) σ S := by
  have key : ∀ (post : List α) n, (∀ x ∈ post, x ∈ xs) → ∀ σ S, I n post σ S → forL tg ok body nx (enumD n (post.map f)) σ S := by
    intro post
    induction post with
    | nil => intro n _ σ S i; exact ⟨hok _ _ _ _ i, hend _ _ _ i⟩
    | cons x post ih => exact fun n h σ S i => ⟨hok _ _ _ _ i, step n x post (h x List.mem_cons_self) _ σ S (fun σ S => ih (n + 1) (fun y hy => h y (List.mem_cons_of_mem _ hy)) σ S) i⟩
  exact key xs 0 fun x h => h
theorem compL_fm {α : Type} {tg : Tg} {ok : Sl → Hs → Prop} {elt : Sl → Hs → (D → Hs → Prop) → Prop} {tst : Sl → Hs → (Bool → Hs → Prop) → Prop} {σ : Sl} {K : List D → Hs → Prop} (f : α → D) (g : α → Option D) {S : Hs} (hok : ok σ S) :
    ∀ (xs : List α) (acc : List D), (∀ x ∈ xs, ∀ (P1 : D → Hs → Prop) (P2 : Hs → Prop), (∀ y, g x = some y → P1 y S) → (g x = none → P2 S) → bindT tg (f x) σ fun σ' => tst σ' S fun b S1 => Br b (elt σ' S1 P1) (P2 S1)) → acc.length + xs.length ≤ sizeLine → K (acc ++ xs.filterMap g) S → compL tg ok elt tst σ (xs.map f) acc S K
  | [], acc, _, _, k => ⟨hok, by simpa using k⟩
  | x :: xs, acc, h, hl, k => by
    have hl' : acc.length + xs.length + 1 ≤ sizeLine := by simpa [Nat.add_assoc] using hl
    refine ⟨hok, h x List.mem_cons_self _ _ (fun y e => ⟨by omega, ?_⟩) (fun e => ?_)⟩
    · refine compL_fm f g hok xs (acc ++ [y]) (fun z hz => h z (List.mem_cons_of_mem _ hz)) (by simp; omega) ?_
      rw [List.filterMap_cons, e] at k
      simpa using k
    · refine compL_fm f g hok xs acc (fun z hz => h z (List.mem_cons_of_mem _ hz)) (by omega) ?_
      rw [List.filterMap_cons, e] at k
      exact k
theorem compL_fm' {α : Type} {tg : Tg} {ok : Sl → Hs → Prop} {elt : Sl → Hs → (D → Hs → Prop) → Prop} {tst : Sl → Hs → (Bool → Hs → Prop) → Prop} {σ : Sl} {K : List D → Hs → Prop} (f : α → D) (g : α → Option D) {S : Hs} {items : List D} (xs : List α) (e : items = xs.map f) (hok : ok σ S)
    (h : ∀ x ∈ xs, ∀ (P1 : D → Hs → Prop) (P2 : Hs → Prop), (∀ y, g x = some y → P1 y S) → (g x = none → P2 S) → bindT tg (f x) σ fun σ' => tst σ' S fun b S1 => Br b (elt σ' S1 P1) (P2 S1)) (hl : xs.length ≤ sizeLine) (k : K (xs.filterMap g) S) : compL tg ok elt tst σ items [] S K := by
  subst e
  exact compL_fm f g hok xs [] h (by simpa using hl) (by simpa using k)
theorem compL_cnt {tg : Tg} {ok : Sl → Hs → Prop} {elt : Sl → Hs → (D → Hs → Prop) → Prop} {tst : Sl → Hs → (Bool → Hs → Prop) → Prop} {σ : Sl} {K : List D → Hs → Prop} (I : List D → Hs → Prop) (N : Nat) (hok : ∀ acc S, I acc S → ok σ S) (hN : N ≤ sizeLine) (fin : ∀ acc S, acc.length = N → I acc S → K acc S) :
    ∀ (xs : List D), (∀ x ∈ xs, ∀ acc S, acc.length < N → I acc S → ∀ (P1 : D → Hs → Prop) (P2 : Hs → Prop), (∀ y S2, I (acc ++ [y]) S2 → P1 y S2) → bindT tg x σ fun σ' => tst σ' S fun b S1 => Br b (elt σ' S1 P1) (P2 S1)) → ∀ acc S, acc.length + xs.length = N → I acc S → compL tg ok elt tst σ xs acc S K
  | [], _, acc, S, e, i => ⟨hok _ _ i, fin _ _ (by simpa using e) i⟩
  | x :: xs, h, acc, S, e, i => ⟨hok _ _ i, h x List.mem_cons_self acc S (by simp at e; omega) i _ _ fun y S2 i2 => ⟨by simp at e; omega, compL_cnt I N hok hN fin xs (fun y hy => h y (List.mem_cons_of_mem _ hy)) _ S2 (by simp at e ⊢; omega) i2⟩⟩
theorem one1_i {P : VK2} {x : Vx} {S : Hs} (h : P x S) : one1 P [x] S := h
theorem srcX_vl' {b : Bool} {ds : List D} {S : Hs} {K : It2 → Hs → Prop} (h : K ⟨ds, fun _ _ => True, false⟩ S) : srcX b (.vl ds) S K := by cases b <;> exact h
theorem su_mn {S : Hs} {a : Addr} {o : O} (h : S a = some o) : su (mn a S) a o = S := by
  funext b
  by_cases z : b = a
  · subst z; rw [su_same, h]
  · rw [su_ne z, mn_ne z]
theorem map_eraseIdx {α β : Type} (f : α → β) : ∀ (l : List α) (n : Nat), (l.map f).eraseIdx n = (l.eraseIdx n).map f
  | [], _ => by simp
  | x :: l, 0 => by simp
  | x :: l, n + 1 => by simp [map_eraseIdx f l n]
theorem erase_perm {α : Type} : ∀ {l : List α} {i : Nat} (h : i < l.length), (l[i] :: l.eraseIdx i).Perm l
  | [], i, h => absurd h (Nat.not_lt_zero _)
  | x :: l, 0, _ => .refl _
  | x :: l, i + 1, h => (List.Perm.swap _ _ _).trans (.cons x (erase_perm (l := l) (i := i) (Nat.lt_of_succ_lt_succ h)))
theorem getI_last (ds : List D) (x : D) : getI (ds ++ [x]) (-1) = some x := by
  show (if 0 < (ds ++ [x]).length then (ds ++ [x])[(ds ++ [x]).length - (0 + 1)]? else none) = some x
  simp
theorem cut_len {α : Type} (xs : List α) (lo hi : Option Int) : (cutI xs lo hi).length ≤ xs.length := by
  unfold cutI
  simp
  omega
theorem rngD_ints (n : Nat) : rngD 0 n = ((List.range n).map fun (i : Nat) => (i : Int)).map D.int := by
  have key : ∀ (m : Nat) (lo : Int), rngD lo m = (List.range m).map fun (i : Nat) => D.int (lo + (i : Int)) := by
    intro m
    induction m with
    | zero => intro lo; rfl
    | succ m ih =>
      intro lo
      rw [List.range_succ_eq_map]
      simp only [List.map_cons, List.map_map]
      show D.int lo :: rngD (lo + 1) m = _
      rw [ih, show lo + ((0 : Nat) : Int) = lo by simp]
      congr 1
      refine List.map_congr_left fun i _ => ?_
      show D.int _ = D.int _
      congr 1
      simp; omega
  rw [key, List.map_map]
  refine List.map_congr_left fun i _ => ?_
  show D.int _ = D.int _
  simp
theorem cut_to {α : Type} {xs : List α} {n : Nat} (h : n ≤ xs.length) : cutI xs none (some (n : Int)) = xs.take n := by
  unfold cutI
  rw [HT.sIx_nat, HT.sIx_none, Nat.min_eq_left h]
  simp
theorem fm_filter (p : Int → Bool) : ∀ l : List Int, (l.filterMap fun a => if p a = true then some (D.int a) else none) = (l.filter p).map D.int
  | [] => rfl
  | x :: l => by
    have ih := fm_filter p l
    rw [List.filterMap_cons, List.filter_cons]
    by_cases h : p x = true
    · rw [if_pos h, if_pos h, ih]; rfl
    · rw [if_neg h, if_neg h, ih]
def encI {α : Type} (f : α → D) (kvs : List (Int × α)) : List (D × D) := kvs.map fun p => (.int p.1, f p.2)
def pget {α : Type} : List (Int × α) → Int → Option α
  | [], _ => none
  | (k, v) :: r, x => if k = x then some v else pget r x
def pput {α : Type} (kvs : List (Int × α)) (x : Int) (y : α) : List (Int × α) := if (pget kvs x).isSome then kvs.map fun p => if p.1 = x then (p.1, y) else p else kvs ++ [(x, y)]
theorem dget_enc {α : Type} {f : α → D} : ∀ (kvs : List (Int × α)) (x : Int), dget (encI f kvs) (.int x) = (pget kvs x).map f
  | [], x => rfl
  | (k, v) :: r, x => by
    show (match eqB (.int k) (.int x) with | true => some (f v) | false => dget (encI f r) (.int x)) = _
    have e : eqB (.int k) (.int x) = decide (k = x) := rfl
    rw [e]
    by_cases h : k = x
    · rw [decide_eq_true h]; simp [pget, h]
    · rw [decide_eq_false h, dget_enc r x]; simp [pget, h]
theorem dhas_enc {α : Type} {f : α → D} (kvs : List (Int × α)) (x : Int) : dhas (encI f kvs) (.int x) = (pget kvs x).isSome := by
  unfold dhas
  rw [dget_enc]
  cases pget kvs x <;> rfl
theorem dput_enc {α : Type} {f : α → D} (kvs : List (Int × α)) (x : Int) (y : α) : dput (encI f kvs) (.int x) (f y) = encI f (pput kvs x y) := by
  unfold dput pput
  rw [dhas_enc]
  cases h : (pget kvs x).isSome with
  | true =>
    simp only [if_true]
    show (kvs.map _).map _ = (kvs.map _).map _
    rw [List.map_map, List.map_map]
    refine List.map_congr_left fun p _ => ?_
    show (match eqB (.int p.1) (.int x) with | true => (D.int p.1, f y) | false => (D.int p.1, f p.2)) = (D.int (if p.1 = x then (p.1, y) else p).1, f (if p.1 = x then (p.1, y) else p).2)
    have e : eqB (.int p.1) (.int x) = decide (p.1 = x) := rfl
    rw [e]
    by_cases h : p.1 = x
    · rw [decide_eq_true h, if_pos h]
    · rw [decide_eq_false h, if_neg h]
  | false => simp [encI]
theorem pget_none {α : Type} {kvs : List (Int × α)} {x : Int} : pget kvs x = none ↔ ∀ p ∈ kvs, p.1 ≠ x := by
  induction kvs with
  | nil => simp [pget]
  | cons p r ih =>
    obtain ⟨k, v⟩ := p
    unfold pget
    by_cases h : k = x
    · simp [h]
    · simp [h, ih]
theorem pget_put {α : Type} (kvs : List (Int × α)) (x z : Int) (y : α) : pget (pput kvs x y) z = if x = z then some y else pget kvs z := by
  unfold pput
  split
  · rename_i h
    have key : ∀ (l : List (Int × α)), pget (l.map fun p => if p.1 = x then (p.1, y) else p) z = if x = z then (if (pget l x).isSome then some y else none) else pget l z := by
      intro l
      induction l with
      | nil => simp [pget]
      | cons p r ih =>
        obtain ⟨k, v⟩ := p
        simp only [List.map_cons]
        by_cases e : k = x
        · subst e
          by_cases e2 : k = z
          · subst e2; simp [pget]
          · simp [pget, e2, ih]
        · by_cases e2 : k = z
          · subst e2
            have : ¬ x = k := fun q => e q.symm
            simp [pget, e, this]
          · by_cases e3 : x = z
            · subst e3; simp [pget, e, e2, ih]
            · simp [pget, e, e2, e3, ih]
    rw [key, h]
    by_cases e3 : x = z <;> simp [e3]
  · rename_i h
    have h : pget kvs x = none := by simpa using h
    have key : ∀ (l : List (Int × α)), pget l x = none → pget (l ++ [(x, y)]) z = if x = z then some y else pget l z := by
      intro l
      induction l with
      | nil => intro _; simp [pget]
      | cons p r ih =>
        obtain ⟨k, v⟩ := p
        intro hl
        unfold pget at hl
        split at hl
        · cases hl
        · rename_i hk
          simp only [List.cons_append, pget]
          rw [ih hl]
          by_cases e2 : k = z
          · subst e2
            have : ¬ x = k := fun q => hk q.symm
            simp [this]
          · by_cases e3 : x = z
            · subst e3; simp [hk]
            · simp [e2, e3]
    exact key kvs h
def Fr (p : Addr) (S S' : Hs) : Prop := ∀ b o, S b = some o → b ≠ p → S' b = some o
theorem Fr.refl {p : Addr} {S : Hs} : Fr p S S := fun _ _ h _ => h
theorem Fr.trans {p : Addr} {A B C : Hs} (h : Fr p A B) (k : Fr p B C) : Fr p A C := fun b o e n => k b o (h b o e n) n
theorem Fr.pen {p : Addr} {S : Hs} {o : O} : Fr p S (su S p o) := fun b x e n => by rw [su_ne n]; exact e
theorem Fr.new {p a : Addr} {S S' : Hs} {o : O} (h : Fr p S S') (n : S a = none) : Fr p S (su S' a o) := fun b x e z => by
  rw [su_ne (fun q => by subst q; rw [n] at e; cases e)]; exact h b x e z
theorem su_su {S : Hs} {a : Addr} {o u : O} : su (su S a o) a u = su S a u := by
  funext b; unfold su; split <;> rfl
theorem eqBs_ints : ∀ (l m : List Int), eqBs (l.map D.int) (m.map D.int) = decide (l = m)
  | [], [] => rfl
  | [], _ :: _ => rfl
  | _ :: _, [] => rfl
  | x :: l, y :: m => by
    show (decide (x = y) && eqBs (l.map D.int) (m.map D.int)) = _
    rw [eqBs_ints l m]
    by_cases h : x = y
    · subst h; simp
    · simp [h]
end LU

/-! U2: sorted ints; small tools. -/
namespace LU
open PySem L2 PySem.Spec PyProof.Rows DL LW
/-- sorted -/
def srt (l : List Int) : List Int := l.mergeSort (fun a b => decide (a ≤ b))
theorem srt_perm (l : List Int) : (srt l).Perm l := List.mergeSort_perm l _
theorem srt_pw (l : List Int) : (srt l).Pairwise (· ≤ ·) := by
  have := List.pairwise_mergeSort (le := fun a b : Int => decide (a ≤ b)) (fun a b c h1 h2 => by simp at *; omega) (fun a b => by simp; omega) l
  exact this.imp (by simp)
theorem sorted_eq : ∀ {a b : List Int}, a.Perm b → a.Pairwise (· ≤ ·) → b.Pairwise (· ≤ ·) → a = b
  | [], b, p, _, _ => by simpa using p
  | x :: a, [], p, _, _ => by simp at p
  | x :: a, y :: b, p, h, k => by
    have hx : x ∈ y :: b := p.subset List.mem_cons_self
    have hy : y ∈ x :: a := p.symm.subset List.mem_cons_self
    rw [List.pairwise_cons] at h k
    have e : x = y := by
      rcases List.mem_cons.mp hx with e | hx
      · exact e
      · rcases List.mem_cons.mp hy with e | hy
        · exact e.symm
        · have := h.1 y hy; have := k.1 x hx; omega
    subst e
    rw [sorted_eq (List.perm_cons x |>.mp p) h.2 k.2]
theorem srt_eq {l m : List Int} (p : m.Perm l) (h : m.Pairwise (· ≤ ·)) : m = srt l := sorted_eq (p.trans (srt_perm l).symm) h (srt_pw l)
theorem srt_mem {l : List Int} {x : Int} : x ∈ srt l ↔ x ∈ l := (srt_perm l).mem_iff
theorem getI_get {α : Type} {f : α → D} {l : List α} {b : Int} {d : α} (h0 : 0 ≤ b) (h1 : b < l.length) : getI (l.map f) b = some (f (l.getD b.toNat d)) := by
  obtain ⟨n, rfl⟩ := Int.eq_ofNat_of_zero_le h0
  have hn : n < l.length := by omega
  show (l.map f)[n]? = some (f (l.getD n d))
  rw [List.getElem?_map, List.getElem?_eq_getElem hn, List.getD_eq_getElem?_getD, List.getElem?_eq_getElem hn]; rfl
theorem pput_len {α : Type} {kvs : List (Int × α)} {x : Int} {y : α} : (pput kvs x y).length ≤ kvs.length + 1 := by
  unfold pput
  split <;> simp
theorem pput_fst {α β : Type} (g : Int → β) {kvs : List (Int × α)} {x : Int} {y : α} (h : (pget kvs x).isSome) : (pput kvs x y).map (fun e => g e.1) = kvs.map fun e => g e.1 := by
  unfold pput
  rw [if_pos h, List.map_map]
  refine List.map_congr_left fun p _ => ?_
  show g (if p.1 = x then (p.1, y) else p).1 = g p.1
  split <;> rfl
theorem pput_lens {α : Type} {kvs : List (Int × α)} {x : Int} {y : α} (h : (pget kvs x).isSome) : (pput kvs x y).length = kvs.length := by
  unfold pput
  rw [if_pos h]; simp
theorem pput_new {α : Type} {kvs : List (Int × α)} {x : Int} {y : α} (h : pget kvs x = none) : pput kvs x y = kvs ++ [(x, y)] := by
  unfold pput
  rw [h]; rfl
theorem pput_keys {α : Type} {kvs : List (Int × α)} {x : Int} {y : α} (h : (kvs.map Prod.fst).Nodup) : ((pput kvs x y).map Prod.fst).Nodup := by
  cases q : pget kvs x with
  | some v =>
    have := pput_fst (fun z => z) (y := y) (show (pget kvs x).isSome by rw [q]; rfl)
    rw [show (pput kvs x y).map Prod.fst = kvs.map Prod.fst from this]; exact h
  | none =>
    rw [pput_new q, List.map_append]
    refine List.nodup_append.mpr ⟨h, by simp, fun a ha b hb e => ?_⟩
    obtain ⟨p, hp, rfl⟩ := List.mem_map.mp ha
    have hb : b = x := by simpa using hb
    exact pget_none.mp q p hp (e.trans hb)
theorem pget_mem {α : Type} {kvs : List (Int × α)} {x : Int} {y : α} (h : pget kvs x = some y) : (x, y) ∈ kvs := by
  induction kvs with
  | nil => cases h
  | cons p r ih =>
    obtain ⟨k, v⟩ := p
    unfold pget at h
    split at h
    · rename_i e; cases h; subst e; exact List.mem_cons_self
    · exact List.mem_cons_of_mem _ (ih h)
theorem pget_key {α : Type} {kvs : List (Int × α)} {x : Int} : (pget kvs x).isSome ↔ x ∈ kvs.map Prod.fst := by
  cases q : pget kvs x with
  | some y => simp; exact ⟨y, pget_mem q⟩
  | none =>
    simp
    intro y hy
    exact pget_none.mp q _ hy rfl
theorem su_id {S : Hs} {a : Addr} {o : O} (h : S a = some o) : su S a o = S := by
  funext b; unfold su; split
  · rename_i e; rw [e, h]
  · rfl
theorem wpg {T : Tbl} {c : Nat → List Vx → Hs → VK2 → Prop} {k : Nat} {σ : Sl} {S : Hs} {Q : LK2} {x : Vx} (h : T.glob k = x) (q : Q [x] S) : wpE T c (.g k) σ S Q := by
  show Q [T.glob k] S
  rw [h]; exact q
theorem forL_map' {α : Type} {tg : Tg} {ok : SK2} {body : SK2 → SK2} {nx : SK2} {items : List D} (f : α → D) (xs : List α) (e : items = xs.map f) (I : List α → SK2) (hok : ∀ l σ S, I l σ S → ok σ S) (hend : ∀ σ S, I [] σ S → nx σ S)
    (step : ∀ x rest, x ∈ xs → (∃ pre, xs = pre ++ x :: rest) → ∀ (k : SK2) σ S, (∀ σ S, I rest σ S → k σ S) → I (x :: rest) σ S → bindT tg (f x) σ fun σ' => body k σ' S) (σ : Sl) (S : Hs) (i : I xs σ S) : forL tg ok body nx items σ S := by
  subst e
  exact forL_map f I hok hend step σ S i
theorem forL_enum' {α : Type} {tg : Tg} {ok : SK2} {body : SK2 → SK2} {nx : SK2} {items : List D} (f : α → D) (xs : List α) (e : items = xs.map f) (I : Nat → List α → SK2) (hok : ∀ n l σ S, I n l σ S → ok σ S) (hend : ∀ n σ S, I n [] σ S → nx σ S)
    (step : ∀ n x rest, x ∈ xs → ∀ (k : SK2) σ S, (∀ σ S, I (n + 1) rest σ S → k σ S) → I n (x :: rest) σ S → bindT tg (.tup [.int (n : Int), f x]) σ fun σ' => body k σ' S) (σ : Sl) (S : Hs) (i : I 0 xs σ S) : forL tg ok body nx (enumD 0 items) σ S := by
  subst e
  exact forL_enum f I hok hend step σ S i
theorem nodup_le : ∀ (n : Nat) (l : List Int), l.Nodup → (∀ x ∈ l, 0 ≤ x ∧ x < (n : Int)) → l.length ≤ n
  | 0, [], _, _ => Nat.le_refl _
  | 0, x :: l, _, h => by have := h x List.mem_cons_self; omega
  | n + 1, l, hd, h => by
    have h1 : (l.filter fun x => x ≠ (n : Int)).length ≤ n := nodup_le n _ (hd.filter _) fun x hx => by
      have h2 := List.mem_filter.mp hx
      have h3 := h x h2.1
      have h4 : x ≠ (n : Int) := by simpa using h2.2
      omega
    have h5 : ∀ l : List Int, l.Nodup → l.length ≤ (l.filter fun x => x ≠ (n : Int)).length + 1 := by
      intro l
      induction l with
      | nil => intro _; simp
      | cons x l ih =>
        intro hd
        rw [List.nodup_cons] at hd
        by_cases e : x = (n : Int)
        · have : l.filter (fun x => x ≠ (n : Int)) = l := List.filter_eq_self.mpr fun y hy => by
            have : y ≠ (n : Int) := fun q => hd.1 (by rw [e, ← q]; exact hy)
            simpa using this
          rw [List.filter_cons, if_neg (by simp [e]), this]; simp
        · have := ih hd.2
          rw [List.filter_cons, if_pos (by simp [e])]; rw [List.length_cons, List.length_cons]; omega
    have := h5 l hd
    omega
theorem isS {T : Tbl} {c : Nat → List Vx → Hs → VK2 → Prop} {r : R} {σ : Sl} {S : Hs} {nx bk ct : SK2} {rt : VK2} (h : DL.wpS T c r σ S nx rt bk ct) : DL.wpS T c r σ S nx rt bk ct := h
theorem storD {x : D} {P : Prop} (h : P) : stor (.d x) P := h
theorem storV {x : List D} {P : Prop} (h : P) : stor (.vl x) P := h
theorem storVd {x : List (D × D)} {P : Prop} (h : P) : stor (.vd x) P := h
theorem su_comm {S : Hs} {a b : Addr} {o u : O} (h : a ≠ b) : su (su S a o) b u = su (su S b u) a o := by
  funext c
  unfold su
  by_cases e1 : c = b
  · rw [if_pos e1, if_neg (fun q => h (by rw [← q, e1])), if_pos e1]
  · rw [if_neg e1]
    by_cases e2 : c = a
    · rw [if_pos e2, if_pos e2]
    · rw [if_neg e2, if_neg e2, if_neg e1]
theorem bxD {x : D} {S : Hs} {K : D → Hs → Prop} (h : K x S) : bx (.d x) S K := h
theorem eqD_pl {x y : D} {S : Hs} {K : Bool → Prop} (hx : pln x = true) (hy : pln y = true) (k : K (eqB x y)) : eqD (.d x) (.d y) S K := by
  cases x <;> cases y <;> first | exact ⟨hx, hy, k⟩ | (simp [pl] at hx; done) | (simp [pl] at hy; done)
mutual
theorem eqB_refl : ∀ (n : Nat) (x : D), pl n x = true → eqB x x = true
  | _, .non, _ => rfl
  | _, .bl b, _ => by show (b == b) = true; simp
  | _, .int i, _ => decide_eq_true rfl
  | _, .str a, _ => decide_eq_true rfl
  | n, .ref a, h => by cases n <;> cases h
  | 0, .tup ds, h => by cases h
  | n + 1, .tup ds, h => eqBs_refl n ds (by simpa [pl] using h)
theorem eqBs_refl : ∀ (n : Nat) (xs : List D), pls n xs = true → eqBs xs xs = true
  | _, [], _ => rfl
  | n, x :: xs, h => by
    simp only [pls, Bool.and_eq_true] at h
    show (eqB x x && eqBs xs xs) = true
    rw [eqB_refl n x h.1, eqBs_refl n xs h.2]; rfl
end
mutual
theorem pl_le : ∀ (n m : Nat) (x : D), n ≤ m → pl n x = true → pl m x = true
  | n, m, .non, _, _ => by cases m <;> rfl
  | n, m, .bl b, _, _ => by cases m <;> rfl
  | n, m, .int i, _, _ => by cases m <;> rfl
  | n, m, .str a, _, h => by cases n <;> cases m <;> exact h
  | n, m, .ref a, _, h => by cases n <;> cases h
  | 0, m, .tup ds, _, h => by cases h
  | n + 1, 0, .tup ds, h, _ => by omega
  | n + 1, m + 1, .tup ds, h, z => by
    have z : pls n ds = true := by simpa [pl] using z
    have := pls_le n m ds (by omega) z
    simpa [pl] using this
theorem pls_le : ∀ (n m : Nat) (xs : List D), n ≤ m → pls n xs = true → pls m xs = true
  | n, m, [], _, _ => by cases m <;> rfl
  | n, m, x :: xs, h, z => by
    simp only [pls, Bool.and_eq_true] at z ⊢
    exact ⟨pl_le n m x h z.1, pls_le n m xs h z.2⟩
end
mutual
theorem res_pl (S : Hs) : ∀ (n : Nat) (d : D), pl n d = true → resP S n d = some (toP d)
  | n, .non, _ => by unfold resP; rfl
  | n, .bl b, _ => by unfold resP; rfl
  | n, .int i, _ => by unfold resP; rfl
  | n, .str s, _ => by unfold resP; rfl
  | n, .ref a, h => by cases n <;> cases h
  | 0, .tup ds, h => by cases h
  | n + 1, .tup ds, h => by
    have h : pls n ds = true := by simpa [pl] using h
    unfold resP
    rw [res_pls S n ds h]; rfl
theorem res_pls (S : Hs) : ∀ (n : Nat) (ds : List D), pls n ds = true → resPs S n ds = some (toPs ds)
  | n, [], _ => by unfold resPs; rfl
  | n, d :: ds, h => by
    simp only [pls, Bool.and_eq_true] at h
    unfold resPs
    rw [res_pl S n d h.1, res_pls S n ds h.2]; rfl
end
/-- both read as one p, which equals itself -/
def Eqs (S : Hs) (n : Nat) (x y : D) : Prop := ∃ p, resP S n x = some p ∧ resP S n y = some p ∧ p.canLay0 = true ∧ p.depth ≤ n ∧ PyData.eqv p p = true
def EqsL (S : Hs) (n : Nat) (xs ys : List D) : Prop := ∃ ps, resPs S n xs = some ps ∧ resPs S n ys = some ps ∧ PyData.canLayAll0 ps = true ∧ PyData.depthAll ps ≤ n ∧ PyData.eqvAll ps ps = true
theorem EqsL.nil {S : Hs} {n : Nat} : EqsL S n [] [] := ⟨[], by unfold resPs; rfl, by unfold resPs; rfl, rfl, Nat.zero_le _, rfl⟩
theorem EqsL.cons {S : Hs} {n : Nat} {x y : D} {xs ys : List D} (h : Eqs S n x y) (t : EqsL S n xs ys) : EqsL S n (x :: xs) (y :: ys) := by
  obtain ⟨p, h1, h2, h3, h4, h5⟩ := h
  obtain ⟨ps, t1, t2, t3, t4, t5⟩ := t
  refine ⟨p :: ps, by unfold resPs; rw [h1, t1], by unfold resPs; rw [h2, t2], ?_, ?_, ?_⟩
  · show (p.canLay0 && PyData.canLayAll0 ps) = true
    rw [h3, t3]; rfl
  · show max p.depth (PyData.depthAll ps) ≤ n
    omega
  · show (PyData.eqv p p && PyData.eqvAll ps ps) = true
    rw [h5, t5]; rfl
theorem Eqs.tup {S : Hs} {n : Nat} {xs ys : List D} (h : EqsL S n xs ys) : Eqs S (n + 1) (.tup xs) (.tup ys) := by
  obtain ⟨ps, h1, h2, h3, h4, h5⟩ := h
  refine ⟨.tuple ps, by unfold resP; rw [h1]; rfl, by unfold resP; rw [h2]; rfl, h3, Nat.succ_le_succ h4, h5⟩
theorem Eqs.lst {S : Hs} {n : Nat} {a b : Addr} {xs ys : List D} (e1 : S a = some (.lst xs)) (e2 : S b = some (.lst ys)) (h : EqsL S n xs ys) : Eqs S (n + 1) (.ref a) (.ref b) := by
  obtain ⟨ps, h1, h2, h3, h4, h5⟩ := h
  refine ⟨.list ps, by unfold resP; rw [e1]; simp only []; rw [h1]; rfl, by unfold resP; rw [e2]; simp only []; rw [h2]; rfl, h3, Nat.succ_le_succ h4, h5⟩
theorem Eqs.pln {S : Hs} {n : Nat} {x : D} (h : pl n x = true) (hn : n ≤ 60) : Eqs S n x x := by
  obtain ⟨h1, h2⟩ := pl_lay n x h
  exact ⟨toP x, res_pl S n x h, res_pl S n x h, h1, h2, by rw [← eqB_eqv x x n n h h]; exact eqB_refl n x h⟩
theorem EqsL.plns {S : Hs} {n : Nat} {xs : List D} (h : pls n xs = true) : EqsL S n xs xs := by
  obtain ⟨h1, h2⟩ := pls_lay n xs h
  exact ⟨toPs xs, res_pls S n xs h, res_pls S n xs h, h1, h2, by rw [← eqBs_eqv xs xs n n h h]; exact eqBs_refl n xs h⟩
theorem neh_d {S : Hs} {x y : D} {Q : VK2} (h : Eqs S 50 x y) (q : Q (.d (.bl false)) S) : op2D .neh (.d x) (.d y) S Q := by
  obtain ⟨p, h1, h2, h3, h4, h5⟩ := h
  have hs : SeqAt.shaped p = true := by unfold SeqAt.shaped; rw [h3, decide_eq_true (by omega)]; rfl
  refine ⟨p, p, h1, h2, hs, hs, ?_⟩
  show Q (.d (.bl (!PyData.eqv p p))) S
  rw [h5]; exact q
theorem neh_l {S : Hs} {xs ys : List D} {Q : VK2} (h : EqsL S 49 xs ys) (q : Q (.d (.bl false)) S) : op2D .neh (.bw xs) (.vl ys) S Q := by
  obtain ⟨ps, h1, h2, h3, h4, h5⟩ := h
  have hs : SeqAt.shaped (.list ps) = true := by
    unfold SeqAt.shaped
    have e : (PyData.list ps).canLay0 = true := h3
    have e' : (PyData.list ps).depth = PyData.depthAll ps + 1 := rfl
    rw [e, e', decide_eq_true (by omega)]; rfl
  refine ⟨.list ps, .list ps, (show (resPs S 49 xs).map PyData.list = _ by rw [h1]; rfl), (show (resPs S 49 ys).map PyData.list = _ by rw [h2]; rfl), hs, hs, ?_⟩
  show Q (.d (.bl (!PyData.eqvAll ps ps))) S
  rw [h5]; exact q
end LU

/-! U3: rows of ints sorted. -/
namespace LU
open PySem L2 PySem.Spec PyProof.Rows DL LW
theorem lexN_trans : ∀ (a b c : List Int), lexN b a = false → lexN c b = false → lexN c a = false
  | [], _, c, _, _ => by cases c <;> rfl
  | x :: a, [], c, h, _ => by cases h
  | x :: a, y :: b, [], _, k => by cases k
  | x :: a, y :: b, z :: c, h0, k0 => by
    have h : (if y = x then lexN b a else decide (y < x)) = false := h0
    have k : (if z = y then lexN c b else decide (z < y)) = false := k0
    clear h0 k0
    show (if z = x then lexN c a else decide (z < x)) = false
    by_cases e1 : y = x
    · rw [if_pos e1] at h
      subst e1
      by_cases e2 : z = y
      · rw [if_pos e2] at k ⊢
        exact lexN_trans a b c h k
      · rw [if_neg e2] at k ⊢
        exact k
    · rw [if_neg e1] at h
      have h := of_decide_eq_false h
      by_cases e2 : z = y
      · subst e2
        rw [if_neg e1]
        exact decide_eq_false h
      · rw [if_neg e2] at k
        have k := of_decide_eq_false k
        rw [if_neg (by omega)]
        exact decide_eq_false (by omega)
theorem lexN_total : ∀ (a b : List Int), lexN a b = false ∨ lexN b a = false
  | [], [] => .inl rfl
  | [], _ :: _ => .inr rfl
  | _ :: _, [] => .inl rfl
  | x :: a, y :: b => by
    show (if x = y then lexN a b else decide (x < y)) = false ∨ (if y = x then lexN b a else decide (y < x)) = false
    by_cases e : x = y
    · subst e
      rw [if_pos rfl, if_pos rfl]
      exact lexN_total a b
    · rw [if_neg e, if_neg fun q => e q.symm]
      by_cases h : x < y
      · exact .inr (decide_eq_false (by omega))
      · exact .inl (decide_eq_false h)
theorem lexN_anti : ∀ (a b : List Int), lexN a b = false → lexN b a = false → a = b
  | [], [], _, _ => rfl
  | [], _ :: _, h, _ => by cases h
  | _ :: _, [], _, h => by cases h
  | x :: a, y :: b, h, k => by
    have h : (if x = y then lexN a b else decide (x < y)) = false := h
    have k : (if y = x then lexN b a else decide (y < x)) = false := k
    by_cases e : x = y
    · subst e
      rw [if_pos rfl] at h k
      rw [lexN_anti a b h k]
    · rw [if_neg e] at h
      rw [if_neg fun q => e q.symm] at k
      have h := of_decide_eq_false h
      have k := of_decide_eq_false k
      omega
/-- rows sorted -/
def srtR (l : List (List Int)) : List (List Int) := l.mergeSort fun a b => !lexN b a
theorem srtR_perm (l : List (List Int)) : (srtR l).Perm l := List.mergeSort_perm l _
theorem srtR_srt (l : List (List Int)) : srtN (srtR l) := by
  have := List.pairwise_mergeSort (le := fun a b : List Int => !lexN b a) (fun a b c h1 h2 => by
    simp only [Bool.not_eq_true'] at *
    exact lexN_trans a b c h1 h2) (fun a b => by
    rcases lexN_total a b with h | h
    · simp [h]
    · simp [h]) l
  exact this.imp (fun h => by simpa using h)
theorem sortedR_eq : ∀ {a b : List (List Int)}, a.Perm b → srtN a → srtN b → a = b
  | [], b, p, _, _ => by simpa using p
  | x :: a, [], p, _, _ => by simp at p
  | x :: a, y :: b, p, h, k => by
    have hx : x ∈ y :: b := p.subset List.mem_cons_self
    have hy : y ∈ x :: a := p.symm.subset List.mem_cons_self
    unfold srtN at h k
    rw [List.pairwise_cons] at h k
    have e : x = y := by
      rcases List.mem_cons.mp hx with e | hx
      · exact e
      · rcases List.mem_cons.mp hy with e | hy
        · exact e.symm
        · exact lexN_anti x y (k.1 x hx) (h.1 y hy)
    subst e
    rw [sortedR_eq (List.perm_cons x |>.mp p) h.2 k.2]
theorem srtR_eq {l m : List (List Int)} (p : m.Perm l) (h : srtN m) : m = srtR l := sortedR_eq (p.trans (srtR_perm l).symm) h (srtR_srt l)
end LU

/-! C1: the well of the tales' laws: law_well 146, law_sip 147, law_mixed 149. -/
namespace LU
open PySem L2 PySem.Spec PyProof.Rows DL LW
theorem idx_any {ds : List D} {i : Int} {P : D → Prop} (h0 : 0 ≤ i) (h1 : i < ds.length) (h : ∀ y ∈ ds, P y) : ∃ y, getI ds i = some y ∧ P y := by
  obtain ⟨n, rfl⟩ := Int.eq_ofNat_of_zero_le h0
  have hn : n < ds.length := by omega
  exact ⟨ds[n], List.getElem?_eq_getElem hn, h _ (List.getElem_mem hn)⟩
theorem idx_ints {l : List Int} {i : Int} {P : D → Prop} (h0 : 0 ≤ i) (h1 : i < l.length) (h : ∀ y ∈ l, P (.int y)) : ∃ y, getI (l.map D.int) i = some y ∧ P y :=
  idx_any h0 (by simpa using h1) fun y hy => by
    obtain ⟨z, hz, rfl⟩ := List.mem_map.mp hy
    exact h z hz
theorem sip_ok {T : Tbl} (hT : T.fn 147 = some f_law_sip) (n : Nat) {S : Hs} {p : Addr} {v m : Int} {Q : VK2} (hw : S p = some (.lst [.int v])) (m0 : 0 < m) (m1 : m ≤ 8000) (w : ∀ d v' : Int, 0 ≤ d → d < m → Q (.d (.int d)) (su S p (.lst [.int v']))) :
    cal T (n + 1) 147 [.d (.ref p), .d (.int m)] S Q := by
  refine ⟨_, hT, rfl, rfl, ?_⟩
  have hl : m.natAbs.log2 < 9000 := Nat.lt_of_le_of_lt (Nat.log2_le_self _) (by omega)
  refine ⟨_, rfl, ⟨_, hw, ⟨_, rfl, ⟨_, rfl, ⟨m0, ?_⟩⟩⟩⟩⟩
  refine ⟨_, rfl, ⟨_, hw, ⟨_, rfl, ⟨_, rfl, ⟨⟨m0, hl⟩, ?_⟩⟩⟩⟩⟩
  refine ⟨_, rfl, ⟨_, _, _, rfl, hw, rfl, ⟨Nat.le_of_ble_eq_true rfl, ⟨_, rfl, ?_⟩⟩⟩⟩
  exact ⟨_, rfl, w _ _ (Int.emod_nonneg _ (by omega)) (Int.emod_lt_of_pos _ m0)⟩
theorem well_ok {T : Tbl} (hT : T.fn 146 = some f_law_well) (n : Nat) {S : Hs} {ns : List Int} {k : Int} {Q : VK2} (k0 : 0 ≤ k) (k1 : k ≤ 1000) (w : ∀ v : Int, Q (.vl [.int v]) S) :
    cal T (n + 1) 146 [.fz (ns.map D.int), .d (.int k)] S Q := by
  refine ⟨_, hT, rfl, rfl, ?_⟩
  generalize cal T n = c
  have hk : -(2 ^ 64) < k ∧ k < 2 ^ 64 := ⟨by omega, by omega⟩
  refine ⟨_, rfl, .inl (.inr hk), ?_⟩
  refine ⟨_, rfl, ⟨_, rfl, ⟨_, rfl, Br.mk (fun hb => ?_) (fun _ => ?_)⟩⟩⟩
  · have hb : k < ((ns.map D.int).length : Int) := of_decide_eq_true hb
    obtain ⟨y, hy, z, rfl⟩ : ∃ y, getI (ns.map D.int) k = some y ∧ ∃ z, y = .int z := idx_ints k0 (by simpa using hb) fun y _ => ⟨y, rfl⟩
    refine ⟨_, rfl, ⟨_, rfl, ⟨_, hy, ?_⟩⟩⟩
    refine ⟨_, rfl, by decide, ⟨rfl, rfl, Br.mk (fun _ => ?_) (fun _ => ?_)⟩⟩
    · exact ⟨_, rfl, ⟨⟨by decide, by decide⟩, ⟨_, rfl, Nat.le_of_ble_eq_true rfl, w _⟩⟩⟩
    · refine ⟨_, rfl, .inl (.inr (by decide)), ⟨_, rfl, .inl (.inl (by decide)), by decide, ?_⟩⟩
      refine ⟨_, rfl, by decide, by decide, ?_⟩
      refine forL_inv (fun σ S' => ∃ (a b : Int) (s0 s1 s2 s5 : Option Vx), σ = [s0, s1, s2, some (.d (.int a)), some (.d (.int b)), s5] ∧ 0 ≤ a ∧ a < 2147483563 ∧ S' = S) (fun _ _ _ => trivial) ?_ _ ?_ _ _ ⟨_, _, _, _, _, _, rfl, Int.emod_nonneg _ (by decide), Int.emod_lt_of_pos _ (by decide), rfl⟩
      · rintro σ S' ⟨a, b, s0, s1, s2, s5, rfl, a0, a1, rfl⟩
        exact ⟨_, rfl, ⟨_, rfl, Nat.le_of_ble_eq_true rfl, w _⟩⟩
      · rintro x hx kk σ S' hk ⟨a, b, s0, s1, s2, s5, rfl, a0, a1, rfl⟩
        have ha : -(2 ^ 64) < a ∧ a < 2 ^ 64 := ⟨by omega, by omega⟩
        have hx : ∃ i : Int, x = .int i := by
          rw [rngD_ints] at hx
          obtain ⟨i, _, rfl⟩ := List.mem_map.mp hx
          exact ⟨i, rfl⟩
        obtain ⟨i, rfl⟩ := hx
        refine ⟨_, rfl, ⟨_, rfl, .inl (.inl ha), ⟨_, rfl, .inl (.inl (by decide)), ⟨_, rfl, .inl (.inl (by decide)), by decide, ?_⟩⟩⟩⟩
        refine ⟨_, rfl, .inl (.inr (by decide)), ⟨_, rfl, ⟨_, rfl, ?_⟩⟩⟩
        exact hk _ _ ⟨_, _, _, _, _, _, rfl, Int.emod_nonneg _ (by decide), Int.emod_lt_of_pos _ (by decide), rfl⟩
  · refine ⟨_, rfl, by decide, ⟨rfl, rfl, Br.mk (fun _ => ?_) (fun _ => ?_)⟩⟩
    · exact ⟨_, rfl, ⟨⟨by decide, by decide⟩, ⟨_, rfl, Nat.le_of_ble_eq_true rfl, w _⟩⟩⟩
    · refine ⟨_, rfl, .inl (.inr (by decide)), ⟨_, rfl, .inl (.inl (by decide)), by decide, ?_⟩⟩
      refine ⟨_, rfl, by decide, by decide, ?_⟩
      refine forL_inv (fun σ S' => ∃ (a b : Int) (s0 s1 s2 s5 : Option Vx), σ = [s0, s1, s2, some (.d (.int a)), some (.d (.int b)), s5] ∧ 0 ≤ a ∧ a < 2147483563 ∧ S' = S) (fun _ _ _ => trivial) ?_ _ ?_ _ _ ⟨_, _, _, _, _, _, rfl, Int.emod_nonneg _ (by decide), Int.emod_lt_of_pos _ (by decide), rfl⟩
      · rintro σ S' ⟨a, b, s0, s1, s2, s5, rfl, a0, a1, rfl⟩
        exact ⟨_, rfl, ⟨_, rfl, Nat.le_of_ble_eq_true rfl, w _⟩⟩
      · rintro x hx kk σ S' hk ⟨a, b, s0, s1, s2, s5, rfl, a0, a1, rfl⟩
        have ha : -(2 ^ 64) < a ∧ a < 2 ^ 64 := ⟨by omega, by omega⟩
        have hx : ∃ i : Int, x = .int i := by
          rw [rngD_ints] at hx
          obtain ⟨i, _, rfl⟩ := List.mem_map.mp hx
          exact ⟨i, rfl⟩
        obtain ⟨i, rfl⟩ := hx
        refine ⟨_, rfl, ⟨_, rfl, .inl (.inl ha), ⟨_, rfl, .inl (.inl (by decide)), ⟨_, rfl, .inl (.inl (by decide)), by decide, ?_⟩⟩⟩⟩
        refine ⟨_, rfl, .inl (.inr (by decide)), ⟨_, rfl, ⟨_, rfl, ?_⟩⟩⟩
        exact hk _ _ ⟨_, _, _, _, _, _, rfl, Int.emod_nonneg _ (by decide), Int.emod_lt_of_pos _ (by decide), rfl⟩
/-- the whole numbers below m -/
def upTo (m : Int) : List Int := (List.range m.toNat).map fun (i : Nat) => (i : Int)
theorem upTo_nodup (m : Int) : (upTo m).Nodup := List.pairwise_map.mpr (List.nodup_range.imp fun h e => h (Int.ofNat.inj e))
theorem upTo_mem {m x : Int} : x ∈ upTo m ↔ 0 ≤ x ∧ x < m := by
  unfold upTo
  rw [List.mem_map]
  constructor
  · rintro ⟨i, hi, rfl⟩
    rw [List.mem_range] at hi
    omega
  · rintro ⟨h0, h1⟩
    exact ⟨x.toNat, List.mem_range.mpr (by omega), by omega⟩
theorem upTo_len (m : Int) : (upTo m).length = m.toNat := by simp [upTo]
theorem mixed_ok {T : Tbl} (h7 : T.fn 147 = some f_law_sip) (hT : T.fn 149 = some f_law_mixed) (n : Nat) {S : Hs} {p : Addr} {v m : Int} {Q : VK2} (hw : S p = some (.lst [.int v])) (m0 : 0 ≤ m) (m1 : m ≤ 8000)
    (w : ∀ (l : List Int) (v' : Int) (S' : Hs), l.Perm (upTo m) → Fr p S S' → S' p = some (.lst [.int v']) → Q (.vl (l.map .int)) S') : cal T (n + 2) 149 [.d (.ref p), .d (.int m)] S Q := by
  refine ⟨_, hT, rfl, rfl, ?_⟩
  have hs := fun (S : Hs) (v m : Int) Q (h : S p = some (.lst [.int v])) => sip_ok h7 n (m := m) (Q := Q) h
  generalize cal T (n + 1) = c at hs ⊢
  refine ⟨_, rfl, ⟨_, rfl, by omega, by omega, ?_⟩⟩
  refine ⟨_, rfl, fun la hla => ?_⟩
  have nla : la ≠ p := fun e => by subst e; rw [hw] at hla; cases hla
  refine ⟨_, rfl, by decide, ?_⟩
  refine whl_inv (fun k σ S' => ∃ (s4 : Option Vx) (left found : List Int) (v : Int), k = left.length ∧ σ = [some (.d (.ref p)), some (.d (.int m)), some (.d (.ref la)), some (.vl (found.map D.int)), s4] ∧ (left ++ found).Perm (upTo m) ∧ S' la = some (.lst (left.map D.int)) ∧ S' p = some (.lst [.int v]) ∧ Fr p S S') ?_ (m := (upTo m).length) ?_
  · rintro k σ S' kk hk ⟨s4, left, found, v, rfl, rfl, pm, hl, hp, hf⟩
    have len := pm.length_eq
    rw [List.length_append, upTo_len] at len
    have e0 : eqBs (left.map D.int) [] = decide (left = []) := eqBs_ints left []
    refine ⟨_, rfl, ⟨_, rfl, Nat.le_of_ble_eq_true rfl, ⟨_, hl, ⟨.inl rfl, Br.of (decide (¬ left = [])) ?_ ?_⟩⟩⟩⟩
    · show (!eqBs (left.map D.int) []) = _
      rw [e0]; simp
    · split
      · rename_i hne
        have hne : ¬ left = [] := of_decide_eq_true hne
        have hpos : 0 < left.length := List.length_pos_iff.mpr hne
        refine ⟨_, rfl, ⟨_, rfl, ⟨_, hl, ⟨_, rfl, hs _ _ _ _ hp ?_ ?_ fun d v2 d0 d1 => ?_⟩⟩⟩⟩
        · simp; omega
        · simp; omega
        · obtain ⟨i, rfl⟩ := Int.eq_ofNat_of_zero_le d0
          have hi : i < left.length := by simp at d1; exact d1
          have e2 : (su S' p (.lst [.int v2])) la = some (.lst (left.map D.int)) := by rw [su_ne nla]; exact hl
          have hget : (left.map D.int)[i]? = some (.int left[i]) := by rw [List.getElem?_map, List.getElem?_eq_getElem hi]; rfl
          refine ⟨_, rfl, ⟨_, rfl, ⟨_, _, rfl, e2, ⟨_, rfl, ⟨_, e2, ⟨_, hget, ⟨_, rfl, ?_⟩⟩⟩⟩⟩⟩⟩
          refine ⟨?_, ?_⟩
          · show (found.map D.int).length < sizeLine
            simp; exact Nat.lt_of_lt_of_le (show found.length < 8001 by omega) (by decide)
          · have hperm : (left.eraseIdx i ++ (found ++ [left[i]])).Perm (left ++ found) := by
              have h1 : (left[i] :: left.eraseIdx i).Perm left := erase_perm hi
              have h2 : (left.eraseIdx i ++ (found ++ [left[i]])).Perm (left[i] :: (left.eraseIdx i ++ found)) := by
                rw [← List.append_assoc]
                exact List.perm_append_singleton _ _
              exact h2.trans (List.Perm.append_right found h1)
            refine hk _ _ _ ?_ ⟨_, left.eraseIdx i, found ++ [left[i]], v2, rfl, by simp; rfl, hperm.trans pm, ?_, ?_, ?_⟩
            · rw [List.length_eraseIdx_of_lt hi]; omega
            · rw [su_same, map_eraseIdx]
            · rw [su_ne nla.symm, su_same]
            · exact (hf.trans Fr.pen).new hla
      · rename_i hne
        have he : left = [] := by simpa using hne
        subst he
        exact ⟨_, rfl, w found v S' (by simpa using pm) hf hp⟩
  · refine ⟨_, upTo m, [], v, rfl, rfl, by simp, ?_, ?_, Fr.refl.new hla⟩
    · rw [su_same, rngD_ints]; rfl
    · rw [su_ne nla.symm]; exact hw
theorem whole_ok {T : Tbl} (hT : T.fn 148 = some f_law_whole) (n : Nat) {S : Hs} {x : Int} {Q : VK2} (w : Q (.d (.bl true)) S) : cal T (n + 1) 148 [.d (.int x)] S Q := by
  refine ⟨_, hT, rfl, rfl, ?_⟩
  exact ⟨_, rfl, ⟨_, rfl, Br.tt ⟨_, rfl, ⟨_, rfl, w⟩⟩⟩⟩
theorem rng_bd (a b : Int) (h : 0 ≤ a) (hab : a ≤ b) (l : Nat) : ∃ z : Int, (if (if (l : Int) < b then (l : Int) else b) > a then (if (l : Int) < b then (l : Int) else b) else a) = z ∧ 0 ≤ z ∧ z ≤ b := by
  refine ⟨_, rfl, ?_⟩
  have key : ∀ y : Int, y ≤ b → 0 ≤ (if y > a then y else a) ∧ (if y > a then y else a) ≤ b := fun y hy => by
    by_cases h : y > a
    · rw [if_pos h]; omega
    · rw [if_neg h]; omega
  refine key _ ?_
  by_cases h : (l : Int) < b
  · rw [if_pos h]; omega
  · rw [if_neg h]; exact Int.le_refl _
end LU

/-! H1: regions of the heap: for each role the object that stands there; a step of a region; what else stands. -/
namespace LU
open PySem L2 PySem.Spec PyProof.Rows DL LW
structure At {ρ : Type} (S : Hs) (L : ρ → Addr) (ob : ρ → Option O) : Prop where
  at_ : ∀ r o, ob r = some o → S (L r) = some o
  inj : ∀ r q, (ob r).isSome → (ob q).isSome → L r = L q → r = q
def foot {ρ : Type} (L : ρ → Addr) (ob : ρ → Option O) (b : Addr) : Prop := ∃ r, (ob r).isSome ∧ L r = b
/-- what else there is stays -/
structure Step {ρ : Type} (S : Hs) (L : ρ → Addr) (ob : ρ → Option O) (S' : Hs) (L' : ρ → Addr) (ob' : ρ → Option O) : Prop where
  to : At S' L' ob'
  fo : ∀ b o, S b = some o → ¬ foot L ob b → S' b = some o
  nw : ∀ b, foot L' ob' b → foot L ob b ∨ S b = none
def mv {ρ : Type} [DecidableEq ρ] (L : ρ → Addr) (r0 : ρ) (a : Addr) : ρ → Addr := fun r => if r = r0 then a else L r
theorem mv_same {ρ : Type} [DecidableEq ρ] {L : ρ → Addr} {r0 : ρ} {a : Addr} : mv L r0 a r0 = a := by unfold mv; rw [if_pos rfl]
theorem mv_ne {ρ : Type} [DecidableEq ρ] {L : ρ → Addr} {r0 r : ρ} {a : Addr} (h : r ≠ r0) : mv L r0 a r = L r := by unfold mv; rw [if_neg h]
section
variable {ρ : Type} {S S' S1 S2 S3 : Hs} {L L' L1 L2 L3 : ρ → Addr} {ob ob' ob1 ob2 ob3 : ρ → Option O}
theorem At.live (h : At S L ob) {b : Addr} (f : foot L ob b) : ∃ o, S b = some o := by
  obtain ⟨r, hr, rfl⟩ := f
  obtain ⟨o, ho⟩ := Option.isSome_iff_exists.mp hr
  exact ⟨o, h.at_ r o ho⟩
theorem At.refl (h : At S L ob) : Step S L ob S L ob := ⟨h, fun _ _ e _ => e, fun _ h => .inl h⟩
theorem Step.trans (h : Step S1 L1 ob1 S2 L2 ob2) (g : Step S2 L2 ob2 S3 L3 ob3) : Step S1 L1 ob1 S3 L3 ob3 := by
  refine ⟨g.to, fun b o e n => ?_, fun b hb => ?_⟩
  · refine g.fo b o (h.fo b o e n) fun f => ?_
    rcases h.nw b f with f | f
    · exact n f
    · rw [f] at e; cases e
  · rcases g.nw b hb with f | f
    · exact h.nw b f
    · cases e : S1 b with
      | none => exact .inr rfl
      | some o =>
        refine .inl (Classical.byContradiction fun n => ?_)
        rw [h.fo b o e n] at f; cases f
/-- one object changed -/
theorem At.upd (h : At S L ob) (r0 : ρ) {o : O} (l0 : (ob r0).isSome) (same : ∀ r, r ≠ r0 → ob' r = ob r) (e : ob' r0 = some o) : Step S L ob (su S (L r0) o) L ob' := by
  have live : ∀ r, (ob' r).isSome → (ob r).isSome := fun r hr => by
    by_cases z : r = r0
    · rw [z]; exact l0
    · rw [← same r z]; exact hr
  refine ⟨⟨fun r o' hr => ?_, fun r q hr hq => h.inj r q (live r hr) (live q hq)⟩, fun b o' eb n => ?_, fun b ⟨r, hr, hb⟩ => .inl ⟨r, live r hr, hb⟩⟩
  · by_cases z : r = r0
    · subst z
      rw [e] at hr; cases hr
      exact su_same
    · have hs := same r z
      rw [hr] at hs
      rw [su_ne fun q => z (h.inj r r0 (by rw [← hs]; rfl) l0 q)]
      exact h.at_ r o' hs.symm
  · rw [su_ne fun q => n ⟨r0, l0, q.symm⟩]
    exact eb
/-- more roles -/
theorem At.ext (h : At S L ob) (nw : ρ → Prop) (old : ∀ r, ¬ nw r → L' r = L r ∧ ob' r = ob r) (st : ∀ b o, S b = some o → S' b = some o)
    (n1 : ∀ r o, nw r → ob' r = some o → S' (L' r) = some o ∧ S (L' r) = none) (n2 : ∀ r q, nw r → nw q → (ob' r).isSome → (ob' q).isSome → L' r = L' q → r = q) : Step S L ob S' L' ob' := by
  refine ⟨⟨fun r o hr => ?_, fun r q hr hq e => ?_⟩, fun b o eb _ => st b o eb, fun b ⟨r, hr, hb⟩ => ?_⟩
  · by_cases z : nw r
    · exact (n1 r o z hr).1
    · rw [(old r z).1]
      exact st _ _ (h.at_ r o (by rw [← (old r z).2]; exact hr))
  · obtain ⟨o1, e1⟩ := Option.isSome_iff_exists.mp hr
    obtain ⟨o2, e2⟩ := Option.isSome_iff_exists.mp hq
    by_cases z : nw r
    · by_cases y : nw q
      · exact n2 r q z y hr hq e
      · have a := (n1 r o1 z e1).2
        rw [e, (old q y).1, h.at_ q o2 (by rw [← (old q y).2]; exact e2)] at a
        cases a
    · by_cases y : nw q
      · have a := (n1 q o2 y e2).2
        rw [← e, (old r z).1, h.at_ r o1 (by rw [← (old r z).2]; exact e1)] at a
        cases a
      · refine h.inj r q ?_ ?_ ?_
        · rw [← (old r z).2]; exact hr
        · rw [← (old q y).2]; exact hq
        · rw [← (old r z).1, ← (old q y).1]; exact e
  · obtain ⟨o, e⟩ := Option.isSome_iff_exists.mp hr
    by_cases z : nw r
    · exact .inr (by rw [← hb]; exact (n1 r o z e).2)
    · exact .inl ⟨r, by rw [← (old r z).2]; exact hr, by rw [← (old r z).1]; exact hb⟩
/-- one role's object stands in a new place: it is put there, and the one that names it is changed -/
theorem At.move [DecidableEq ρ] (h : At S L ob) (r0 r1 : ρ) {a : Addr} {o0 o1 : O} (ha : S a = none) (l1 : (ob r1).isSome) (hne : r0 ≠ r1)
    (same : ∀ r, r ≠ r0 → r ≠ r1 → ob' r = ob r) (e0 : ob' r0 = some o0) (e1 : ob' r1 = some o1) : Step S L ob (su (su S a o0) (L r1) o1) (mv L r0 a) ob' := by
  have na : ∀ r o, ob r = some o → L r ≠ a := fun r o e q => by
    have := h.at_ r o e
    rw [q, ha] at this; cases this
  obtain ⟨o1', l1'⟩ := Option.isSome_iff_exists.mp l1
  have n1 := na r1 o1' l1'
  have live : ∀ r, r ≠ r0 → (ob' r).isSome → (ob r).isSome := fun r z hr => by
    by_cases y : r = r1
    · rw [y]; exact l1
    · rw [← same r z y]; exact hr
  refine ⟨⟨fun r o hr => ?_, fun r q hr hq e => ?_⟩, fun b o eb n => ?_, fun b ⟨r, hr, hb⟩ => ?_⟩
  · by_cases z : r = r0
    · subst z
      rw [mv_same, su_ne n1.symm, su_same]
      rw [← hr, e0]
    · rw [mv_ne z]
      by_cases y : r = r1
      · subst y
        rw [su_same, ← hr, e1]
      · rw [same r z y] at hr
        rw [su_ne (fun q => y (h.inj r r1 (by rw [hr]; rfl) l1 q)), su_ne (na r o hr)]
        exact h.at_ r o hr
  · by_cases z : r = r0
    · by_cases y : q = r0
      · rw [z, y]
      · rw [z, mv_same, mv_ne y] at e
        obtain ⟨o, ho⟩ := Option.isSome_iff_exists.mp (live q y hq)
        exact (na q o ho e.symm).elim
    · by_cases y : q = r0
      · rw [mv_ne z, y, mv_same] at e
        obtain ⟨o, ho⟩ := Option.isSome_iff_exists.mp (live r z hr)
        exact (na r o ho e).elim
      · rw [mv_ne z, mv_ne y] at e
        exact h.inj r q (live r z hr) (live q y hq) e
  · rw [su_ne fun q => n ⟨r1, l1, q.symm⟩, su_ne fun q => by rw [q, ha] at eb; cases eb]
    exact eb
  · by_cases z : r = r0
    · rw [z, mv_same] at hb
      rw [← hb]; exact .inr ha
    · rw [mv_ne z] at hb
      exact .inl ⟨r, live r z hr, hb⟩
theorem At.eq (h : At S L ob) (e : ∀ r, ob' r = ob r) : At S L ob' := by
  have : ob' = ob := funext e
  rw [this]; exact h
theorem Step.eq (h : Step S L ob S' L' ob1) (e : ∀ r, ob' r = ob1 r) : Step S L ob S' L' ob' := by
  have : ob' = ob1 := funext e
  rw [this]; exact h
end
/-- two regions apart -/
def Dis {ρ τ : Type} (L : ρ → Addr) (ob : ρ → Option O) (M : τ → Addr) (pb : τ → Option O) : Prop := ∀ b, foot L ob b → foot M pb b → False
theorem Dis.symm {ρ τ : Type} {L : ρ → Addr} {ob : ρ → Option O} {M : τ → Addr} {pb : τ → Option O} (d : Dis L ob M pb) : Dis M pb L ob := fun b h k => d b k h
section
variable {ρ τ : Type} {S S' : Hs} {L L' : ρ → Addr} {ob ob' : ρ → Option O} {M : τ → Addr} {pb : τ → Option O}
theorem Step.keep (st : Step S L ob S' L' ob') (h : At S M pb) (d : Dis L ob M pb) : At S' M pb ∧ Dis L' ob' M pb := by
  refine ⟨⟨fun r o e => st.fo _ _ (h.at_ r o e) fun f => d _ f ⟨r, by rw [e]; rfl, rfl⟩, h.inj⟩, fun b f g => ?_⟩
  rcases st.nw b f with f | f
  · exact d b f g
  · obtain ⟨o, e⟩ := h.live g
    rw [f] at e; cases e
/-- a new region -/
theorem Dis.new (h : At S M pb) (n : ∀ b, foot L ob b → S b = none) : Dis L ob M pb := fun b f g => by
  obtain ⟨o, e⟩ := h.live g
  rw [n b f] at e; cases e
end
/-- one address -/
theorem At.one {S : Hs} {p : Addr} {o : O} (h : S p = some o) : At (ρ := Unit) S (fun _ => p) (fun _ => some o) := ⟨fun _ _ e => by cases e; exact h, fun _ _ _ _ _ => rfl⟩
theorem At.one_get {S : Hs} {p : Addr} {o : O} (h : At (ρ := Unit) S (fun _ => p) (fun _ => some o)) : S p = some o := h.at_ () o rfl
/-- what keeps all but one address is a step of that one -/
theorem Fr.step {S S' : Hs} {p : Addr} {o o' : O} (h : S p = some o) (f : Fr p S S') (k : S' p = some o') : Step (ρ := Unit) S (fun _ => p) (fun _ => some o) S' (fun _ => p) (fun _ => some o') := by
  refine ⟨At.one k, fun b x e n => f b x e fun q => n ⟨(), rfl, q.symm⟩, fun b ⟨_, _, e⟩ => .inl ⟨(), rfl, e⟩⟩
end LU

/-! K1: the keeper: its state, what stands in the heap for it, a step's frame. -/
namespace LU
open PySem L2 PySem.Spec PyProof.Rows DL LW
structure Att where
  glance : Int
  looked : List Int
  puts : List (Int × Int)
  left : List Int
  stamp : Option Int
  opn : Bool
structure Ks where
  world : D
  boxes : List Int
  marks : List Int
  holders : List (Option Int)
  time : Int
  atts : List (Int × Att)
  events : List D
inductive Role where
  | k | bx | mk | hd | ats | ev | i (a : Int) | lk (a : Int) | pt (a : Int) | lf (a : Int)
  deriving DecidableEq
def optD : Option Int → D
  | none => .non
  | some a => .int a
def addKey (l : List Int) (b : Int) : List Int := if b ∈ l then l else l ++ [b]
/-- unlike ones, as they first come -/
def kys (l : List Int) : List Int := l.foldl addKey []
theorem kys_snoc (l : List Int) (b : Int) : kys (l ++ [b]) = addKey (kys l) b := by unfold kys; rw [List.foldl_append]; rfl
theorem addKey_mem {l : List Int} {b x : Int} : x ∈ addKey l b ↔ x ∈ l ∨ x = b := by
  unfold addKey
  split
  · rename_i h
    exact ⟨.inl, fun e => e.elim id fun e => by rw [e]; exact h⟩
  · simp
theorem foldKey_mem (l : List Int) : ∀ (acc : List Int) (x : Int), x ∈ l.foldl addKey acc ↔ x ∈ acc ∨ x ∈ l := by
  induction l with
  | nil => simp
  | cons y l ih => intro acc x; rw [List.foldl_cons, ih, addKey_mem, List.mem_cons, or_assoc]
theorem kys_mem {l : List Int} {x : Int} : x ∈ kys l ↔ x ∈ l := by unfold kys; rw [foldKey_mem]; simp
theorem foldKey_len (l : List Int) : ∀ acc : List Int, (l.foldl addKey acc).length ≤ acc.length + l.length := by
  induction l with
  | nil => simp
  | cons y l ih =>
    intro acc
    rw [List.foldl_cons]
    refine Nat.le_trans (ih _) ?_
    unfold addKey
    split <;> simp <;> omega
theorem kys_len (l : List Int) : (kys l).length ≤ l.length := by have := foldKey_len l []; rw [List.length_nil, Nat.zero_add] at this; exact this
theorem foldKey_nodup (l : List Int) : ∀ acc : List Int, acc.Nodup → (l.foldl addKey acc).Nodup := by
  induction l with
  | nil => intro acc h; exact h
  | cons y l ih =>
    intro acc h
    rw [List.foldl_cons]
    refine ih _ ?_
    unfold addKey
    split
    · exact h
    · rename_i z
      exact List.nodup_append.mpr ⟨h, by simp, fun a ha b hb e => z (by have : b = y := by simpa using hb
                                                                        rw [← this, ← e]; exact ha)⟩
theorem kys_nodup (l : List Int) : (kys l).Nodup := foldKey_nodup l [] (by simp)
theorem kys_all {l : List Int} {p : Int → Bool} : (kys l).all p = l.all p := by
  rw [Bool.eq_iff_iff, List.all_eq_true, List.all_eq_true]
  exact ⟨fun h x hx => h x (kys_mem.mpr hx), fun h x hx => h x (kys_mem.mp hx)⟩
abbrev lkD (l : List Int) : List (D × D) := l.map fun b => (.int b, .bl true)
def objI (L : Role → Addr) (a : Int) (t : Att) : O := .ins 9 [.int t.glance, .ref (L (.lk a)), .ref (L (.pt a)), .ref (L (.lf a)), optD t.stamp, .bl t.opn]
def objK (L : Role → Addr) (s : Ks) : Role → Option O
  | .k => some (.ins 10 [s.world, .ref (L .bx), .ref (L .mk), .ref (L .hd), .int s.time, .ref (L .ats), .ref (L .ev)])
  | .bx => some (.lst (s.boxes.map D.int))
  | .mk => some (.lst (s.marks.map D.int))
  | .hd => some (.lst (s.holders.map optD))
  | .ats => some (.dic (s.atts.map fun e => (.int e.1, .ref (L (.i e.1)))))
  | .ev => some (.lst s.events)
  | .i a => (pget s.atts a).map (objI L a)
  | .lk a => (pget s.atts a).map fun t => .dic (lkD (kys t.looked))
  | .pt a => (pget s.atts a).map fun t => .dic (encI D.int t.puts)
  | .lf a => (pget s.atts a).map fun t => .lst (t.left.map D.int)
theorem oi {L : Role → Addr} {s : Ks} {a : Int} {t : Att} (ha : pget s.atts a = some t) : objK L s (.i a) = some (objI L a t) := by
  show (pget s.atts a).map _ = _
  rw [ha]; rfl
theorem olk {L : Role → Addr} {s : Ks} {a : Int} {t : Att} (ha : pget s.atts a = some t) : objK L s (.lk a) = some (.dic (lkD (kys t.looked))) := by
  show (pget s.atts a).map _ = _
  rw [ha]; rfl
theorem opt {L : Role → Addr} {s : Ks} {a : Int} {t : Att} (ha : pget s.atts a = some t) : objK L s (.pt a) = some (.dic (encI D.int t.puts)) := by
  show (pget s.atts a).map _ = _
  rw [ha]; rfl
theorem olf {L : Role → Addr} {s : Ks} {a : Int} {t : Att} (ha : pget s.atts a = some t) : objK L s (.lf a) = some (.lst (t.left.map D.int)) := by
  show (pget s.atts a).map _ = _
  rw [ha]; rfl
abbrev KAt (S : Hs) (L : Role → Addr) (s : Ks) : Prop := At S L (objK L s)
/-- a step of the keeper's: what else there is stays -/
structure KStep (S : Hs) (L : Role → Addr) (s : Ks) (S' : Hs) (L' : Role → Addr) (s' : Ks) : Prop where
  st : Step S L (objK L s) S' L' (objK L' s')
  k : L' .k = L .k
theorem KStep.to {S S' : Hs} {L L' : Role → Addr} {s s' : Ks} (h : KStep S L s S' L' s') : KAt S' L' s' := h.st.to
theorem KAt.refl {S : Hs} {L : Role → Addr} {s : Ks} (h : KAt S L s) : KStep S L s S L s := ⟨At.refl h, rfl⟩
theorem KStep.trans {S1 S2 S3 : Hs} {L1 L2 L3 : Role → Addr} {s1 s2 s3 : Ks} (h : KStep S1 L1 s1 S2 L2 s2) (g : KStep S2 L2 s2 S3 L3 s3) : KStep S1 L1 s1 S3 L3 s3 := ⟨h.st.trans g.st, g.k.trans h.k⟩
def Ks.setA (s : Ks) (a : Int) (t : Att) : Ks := { s with atts := pput s.atts a t }
def Ks.evt (s : Ks) (e : D) : Ks := { s with events := s.events ++ [e] }
section
variable {S : Hs} {L : Role → Addr} {s : Ks}
theorem KAt.uev (h : KAt S L s) (e : D) : KStep S L s (su S (L .ev) (.lst (s.events ++ [e]))) L (s.evt e) :=
  ⟨At.upd h .ev rfl (fun r z => by cases r <;> first | rfl | exact (z rfl).elim) rfl, rfl⟩
theorem KAt.ubx (h : KAt S L s) (l : List Int) : KStep S L s (su S (L .bx) (.lst (l.map D.int))) L { s with boxes := l } :=
  ⟨At.upd h .bx rfl (fun r z => by cases r <;> first | rfl | exact (z rfl).elim) rfl, rfl⟩
theorem KAt.umk (h : KAt S L s) (l : List Int) : KStep S L s (su S (L .mk) (.lst (l.map D.int))) L { s with marks := l } :=
  ⟨At.upd h .mk rfl (fun r z => by cases r <;> first | rfl | exact (z rfl).elim) rfl, rfl⟩
theorem KAt.uhd (h : KAt S L s) (l : List (Option Int)) : KStep S L s (su S (L .hd) (.lst (l.map optD))) L { s with holders := l } :=
  ⟨At.upd h .hd rfl (fun r z => by cases r <;> first | rfl | exact (z rfl).elim) rfl, rfl⟩
theorem KAt.utm (h : KAt S L s) (n : Int) : KStep S L s (su S (L .k) (.ins 10 [s.world, .ref (L .bx), .ref (L .mk), .ref (L .hd), .int n, .ref (L .ats), .ref (L .ev)])) L { s with time := n } :=
  ⟨At.upd h .k rfl (fun r z => by cases r <;> first | rfl | exact (z rfl).elim) rfl, rfl⟩
variable {a : Int} {t : Att}
theorem objK_setA (ha : pget s.atts a = some t) (t' : Att) : (∀ r, (∀ b, r ≠ .i b ∧ r ≠ .lk b ∧ r ≠ .pt b ∧ r ≠ .lf b) → objK L (s.setA a t') r = objK L s r) ∧ (∀ b, b ≠ a → pget (s.setA a t').atts b = pget s.atts b) ∧ pget (s.setA a t').atts a = some t' := by
  refine ⟨fun r h => ?_, fun b h => ?_, ?_⟩
  · cases r with
    | ats =>
      show some (O.dic ((pput s.atts a t').map fun e => (D.int e.1, D.ref (L (.i e.1))))) = some (O.dic (s.atts.map fun e => (D.int e.1, D.ref (L (.i e.1)))))
      rw [pput_fst (fun z => (D.int z, D.ref (L (.i z)))) (by rw [ha]; rfl)]
    | i b => exact ((h b).1 rfl).elim
    | lk b => exact ((h b).2.1 rfl).elim
    | pt b => exact ((h b).2.2.1 rfl).elim
    | lf b => exact ((h b).2.2.2 rfl).elim
    | _ => rfl
  · show pget (pput s.atts a t') b = _
    rw [pget_put, if_neg fun q => h q.symm]
  · show pget (pput s.atts a t') a = _
    rw [pget_put, if_pos rfl]
/-- one object of one attempt changed -/
theorem KAt.updA (h : KAt S L s) (ha : pget s.atts a = some t) (t' : Att) (r0 : Role) (hr0 : r0 = .i a ∨ r0 = .lk a ∨ r0 = .pt a ∨ r0 = .lf a) {o : O} (hi : r0 ≠ .i a → objI L a t' = objI L a t) (hl : r0 ≠ .lk a → t'.looked = t.looked) (hp : r0 ≠ .pt a → t'.puts = t.puts) (hf : r0 ≠ .lf a → t'.left = t.left)
    (e : objK L (s.setA a t') r0 = some o) : KStep S L s (su S (L r0) o) L (s.setA a t') := by
  obtain ⟨e1, e2, e3⟩ := objK_setA (L := L) ha t'
  refine ⟨At.upd h r0 ?_ (fun r z => ?_) e, rfl⟩
  · rcases hr0 with rfl | rfl | rfl | rfl
    · rw [oi ha]; rfl
    · rw [olk ha]; rfl
    · rw [opt ha]; rfl
    · rw [olf ha]; rfl
  · cases r with
    | i b =>
      by_cases q : b = a
      · subst q
        show (pget (s.setA b t').atts b).map _ = (pget s.atts b).map _
        rw [e3, ha]
        show some (objI L b t') = some (objI L b t)
        rw [hi z.symm]
      · show (pget (s.setA a t').atts b).map _ = (pget s.atts b).map _
        rw [e2 b q]
    | lk b =>
      by_cases q : b = a
      · subst q
        show (pget (s.setA b t').atts b).map _ = (pget s.atts b).map _
        rw [e3, ha]
        show some (O.dic (lkD (kys t'.looked))) = some (O.dic (lkD (kys t.looked)))
        rw [hl z.symm]
      · show (pget (s.setA a t').atts b).map _ = (pget s.atts b).map _
        rw [e2 b q]
    | pt b =>
      by_cases q : b = a
      · subst q
        show (pget (s.setA b t').atts b).map _ = (pget s.atts b).map _
        rw [e3, ha]
        show some (O.dic (encI D.int t'.puts)) = some (O.dic (encI D.int t.puts))
        rw [hp z.symm]
      · show (pget (s.setA a t').atts b).map _ = (pget s.atts b).map _
        rw [e2 b q]
    | lf b =>
      by_cases q : b = a
      · subst q
        show (pget (s.setA b t').atts b).map _ = (pget s.atts b).map _
        rw [e3, ha]
        show some (O.lst (t'.left.map D.int)) = some (O.lst (t.left.map D.int))
        rw [hf z.symm]
      · show (pget (s.setA a t').atts b).map _ = (pget s.atts b).map _
        rw [e2 b q]
    | _ => exact e1 _ (fun b => ⟨(by intro q; cases q), (by intro q; cases q), (by intro q; cases q), (by intro q; cases q)⟩)
theorem KAt.ui (h : KAt S L s) (ha : pget s.atts a = some t) (t' : Att) (hl : t'.looked = t.looked) (hp : t'.puts = t.puts) (hf : t'.left = t.left) : KStep S L s (su S (L (.i a)) (objI L a t')) L (s.setA a t') :=
  h.updA ha t' (.i a) (.inl rfl) (fun q => (q rfl).elim) (fun _ => hl) (fun _ => hp) (fun _ => hf) (by show (pget (s.setA a t').atts a).map _ = _; rw [(objK_setA (L := L) ha t').2.2]; rfl)
theorem KAt.ulk (h : KAt S L s) (ha : pget s.atts a = some t) (l : List Int) : KStep S L s (su S (L (.lk a)) (.dic (lkD (kys l)))) L (s.setA a { t with looked := l }) :=
  h.updA ha _ (.lk a) (.inr (.inl rfl)) (fun _ => rfl) (fun q => (q rfl).elim) (fun _ => rfl) (fun _ => rfl) (by show (pget (s.setA a _).atts a).map _ = _; rw [(objK_setA (L := L) ha _).2.2]; rfl)
theorem KAt.upt (h : KAt S L s) (ha : pget s.atts a = some t) (l : List (Int × Int)) : KStep S L s (su S (L (.pt a)) (.dic (encI D.int l))) L (s.setA a { t with puts := l }) :=
  h.updA ha _ (.pt a) (.inr (.inr (.inl rfl))) (fun _ => rfl) (fun _ => rfl) (fun q => (q rfl).elim) (fun _ => rfl) (by show (pget (s.setA a _).atts a).map _ = _; rw [(objK_setA (L := L) ha _).2.2]; rfl)
theorem KAt.ulf (h : KAt S L s) (ha : pget s.atts a = some t) (l : List Int) : KStep S L s (su S (L (.lf a)) (.lst (l.map D.int))) L (s.setA a { t with left := l }) :=
  h.updA ha _ (.lf a) (.inr (.inr (.inr rfl))) (fun _ => rfl) (fun _ => rfl) (fun _ => rfl) (fun q => (q rfl).elim) (by show (pget (s.setA a _).atts a).map _ = _; rw [(objK_setA (L := L) ha _).2.2]; rfl)
/-! reading -/
theorem KAt.gk (h : KAt S L s) : S (L .k) = some (.ins 10 [s.world, .ref (L .bx), .ref (L .mk), .ref (L .hd), .int s.time, .ref (L .ats), .ref (L .ev)]) := h.at_ .k _ rfl
theorem KAt.gi (h : KAt S L s) (ha : pget s.atts a = some t) : S (L (.i a)) = some (objI L a t) := h.at_ (.i a) _ (oi ha)
theorem KAt.glk (h : KAt S L s) (ha : pget s.atts a = some t) : S (L (.lk a)) = some (.dic (lkD (kys t.looked))) := h.at_ (.lk a) _ (olk ha)
theorem KAt.gpt (h : KAt S L s) (ha : pget s.atts a = some t) : S (L (.pt a)) = some (.dic (encI D.int t.puts)) := h.at_ (.pt a) _ (opt ha)
theorem KAt.glf (h : KAt S L s) (ha : pget s.atts a = some t) : S (L (.lf a)) = some (.lst (t.left.map D.int)) := h.at_ (.lf a) _ (olf ha)
/-- what can be read while dicts of attempts are locked -/
structure KRd (S : Hs) (L : Role → Addr) (s : Ks) : Prop where
  at_ : ∀ r o, (∀ b, r ≠ .lk b ∧ r ≠ .pt b) → objK L s r = some o → S (L r) = some o
  inj : ∀ r q, (objK L s r).isSome → (objK L s q).isSome → L r = L q → r = q
theorem KAt.rd (h : KAt S L s) : KRd S L s := ⟨fun r o _ e => h.at_ r o e, h.inj⟩
theorem KRd.lockL (h : KRd S L s) (ha : pget s.atts a = some t) (o : O) : KRd (su S (L (.lk a)) o) L s :=
  ⟨fun r o' hr e => by
    rw [su_ne fun q => (hr a).1 (h.inj r (.lk a) (by rw [e]; rfl) (by rw [olk ha]; rfl) q)]
    exact h.at_ r o' hr e, h.inj⟩
theorem KRd.lockP (h : KRd S L s) (ha : pget s.atts a = some t) (o : O) : KRd (su S (L (.pt a)) o) L s :=
  ⟨fun r o' hr e => by
    rw [su_ne fun q => (hr a).2 (h.inj r (.pt a) (by rw [e]; rfl) (by rw [opt ha]; rfl) q)]
    exact h.at_ r o' hr e, h.inj⟩
theorem KRd.gk (h : KRd S L s) : S (L .k) = some (.ins 10 [s.world, .ref (L .bx), .ref (L .mk), .ref (L .hd), .int s.time, .ref (L .ats), .ref (L .ev)]) := h.at_ .k _ (fun _ => ⟨nofun, nofun⟩) rfl
theorem KRd.gi (h : KRd S L s) (ha : pget s.atts a = some t) : S (L (.i a)) = some (objI L a t) := h.at_ (.i a) _ (fun _ => ⟨nofun, nofun⟩) (oi ha)
theorem KRd.gmk (h : KRd S L s) : S (L .mk) = some (.lst (s.marks.map D.int)) := h.at_ .mk _ (fun _ => ⟨nofun, nofun⟩) rfl
theorem KRd.ghd (h : KRd S L s) : S (L .hd) = some (.lst (s.holders.map optD)) := h.at_ .hd _ (fun _ => ⟨nofun, nofun⟩) rfl
theorem KRd.gats (h : KRd S L s) : S (L .ats) = some (.dic (s.atts.map fun (e : Int × Att) => (.int e.1, .ref (L (.i e.1))))) := h.at_ .ats _ (fun _ => ⟨nofun, nofun⟩) rfl
end
theorem dget_ats {L : Role → Addr} (l : List (Int × Att)) (a : Int) : dget (l.map fun e => (D.int e.1, D.ref (L (.i e.1)))) (.int a) = (pget l a).map fun _ => D.ref (L (.i a)) := by
  induction l with
  | nil => rfl
  | cons p r ih =>
    obtain ⟨k, v⟩ := p
    show (match eqB (.int k) (.int a) with | true => some (D.ref (L (.i k))) | false => dget (r.map fun (e : Int × Att) => (D.int e.1, D.ref (L (.i e.1)))) (.int a)) = _
    have e : eqB (.int k) (.int a) = decide (k = a) := rfl
    rw [e]
    by_cases h : k = a
    · rw [decide_eq_true h]; subst h; simp [pget]
    · rw [decide_eq_false h, ih]; simp [pget, h]
theorem dhas_ats {L : Role → Addr} (l : List (Int × Att)) (a : Int) : dhas (l.map fun e => (D.int e.1, D.ref (L (.i e.1)))) (.int a) = (pget l a).isSome := by
  unfold dhas
  rw [dget_ats]
  cases pget l a <;> rfl
theorem dhas_lk : ∀ (l : List Int) (b : Int), dhas (lkD l) (.int b) = decide (b ∈ l)
  | [], b => rfl
  | x :: l, b => by
    have ih := dhas_lk l b
    show (match eqB (.int x) (.int b) with | true => some (D.bl true) | false => dget (lkD l) (.int b)).isSome = _
    have e : eqB (.int x) (.int b) = decide (x = b) := rfl
    rw [e]
    by_cases h : x = b
    · rw [decide_eq_true h]; subst h; simp
    · rw [decide_eq_false h]
      show dhas (lkD l) (.int b) = _
      rw [ih]
      have : ¬ b = x := fun q => h q.symm
      simp [this]
theorem dput_lk (l : List Int) (b : Int) : dput (lkD l) (.int b) (.bl true) = lkD (addKey l b) := by
  unfold dput addKey
  rw [dhas_lk]
  by_cases h : b ∈ l
  · rw [decide_eq_true h, if_pos h]
    show (lkD l).map _ = _
    unfold lkD
    rw [List.map_map]
    refine List.map_congr_left fun x _ => ?_
    show (match eqB (.int x) (.int b) with | true => (D.int x, D.bl true) | false => (D.int x, D.bl true)) = _
    cases eqB (.int x) (.int b) <;> rfl
  · rw [decide_eq_false h, if_neg h]
    simp [lkD]
end LU

/-! K2: the keeper's methods that read; ends. -/
namespace LU
open PySem L2 PySem.Spec PyProof.Rows DL LW
structure KpT (T : Tbl) : Prop where
  f177 : T.fn 177 = some f_Attempt_init
  f178 : T.fn 178 = some f_Keeper_init
  f179 : T.fn 179 = some f_Keeper_open_one
  f180 : T.fn 180 = some f_Keeper_going_one
  f181 : T.fn 181 = some f_Keeper_begin
  f182 : T.fn 182 = some f_Keeper_ends
  f183 : T.fn 183 = some f_Keeper_is_free
  f184 : T.fn 184 = some f_Keeper_is_still
  f185 : T.fn 185 = some f_Keeper_would_fall
  f186 : T.fn 186 = some f_Keeper_look
  f187 : T.fn 187 = some f_Keeper_put
  f188 : T.fn 188 = some f_Keeper_can_take
  f189 : T.fn 189 = some f_Keeper_take
  f190 : T.fn 190 = some f_Keeper_write
  c179 : T.fcls 179 = 10
  c180 : T.fcls 180 = 10
  c182 : T.fcls 182 = 10
  c183 : T.fcls 183 = 10
  c184 : T.fcls 184 = 10
  c185 : T.fcls 185 = 10
  c188 : T.fcls 188 = 10
  i9 : T.cini 9 = 177
  i10 : T.cini 10 = 178
def Ks.free (s : Ks) (a b : Int) : Bool := match s.holders.getD b.toNat none with
  | none => true
  | some c => decide (c = a)
def Ks.mark (s : Ks) (b : Int) : Int := s.marks.getD b.toNat 0
def Ks.box (s : Ks) (b : Int) : Int := s.boxes.getD b.toNat 0
def Ks.still (s : Ks) (a : Int) (t : Att) : Bool := t.looked.all fun b => s.free a b && decide (s.mark b ≤ t.glance)
def Ks.wouldFall (s : Ks) (a : Int) (t : Att) (b : Int) : Bool := !s.free a b || (decide (t.glance < s.mark b) && !s.still a t)
def Ks.ends (s : Ks) (a : Int) (t : Att) (w : List Nat) : Ks := (s.setA a { t with opn := false }).evt (.tup [.str w, .int a])
def inR (s : Ks) (b : Int) : Prop := 0 ≤ b ∧ b < s.boxes.length
structure AttWf (N : Nat) (s : Ks) (t : Att) : Prop where
  lk : ∀ b ∈ t.looked, inR s b
  pt : ∀ p ∈ t.puts, inR s p.1
  lf : ∀ b ∈ t.left, inR s b ∧ (pget t.puts b).isSome
  lkl : t.looked.length ≤ N
  ptl : t.puts.length ≤ N
  ptn : (t.puts.map Prod.fst).Nodup
structure Kwf (N : Nat) (s : Ks) : Prop where
  ml : s.marks.length = s.boxes.length
  hl : s.holders.length = s.boxes.length
  bl : s.boxes.length ≤ 60
  el : s.events.length ≤ N
  ep : pls 5 s.events = true
  al : s.atts.length ≤ N
  an : (s.atts.map Prod.fst).Nodup
  att : ∀ a t, pget s.atts a = some t → AttWf N s t
theorem Kwf.epl {N : Nat} {s : Ks} (h : Kwf N s) : plns s.events = true := pls_le 5 60 _ (by omega) h.ep
section
variable {T : Tbl} (kt : KpT T) (n : Nat) {N : Nat} {S : Hs} {L : Role → Addr} {s : Ks} {a b : Int} {t : Att} {Q : VK2}
theorem KRd.gkc (h : KRd S L s) {f : Nat} (hc : T.fcls f = 10) : S (L .k) = some (.ins (T.fcls f) [s.world, .ref (L .bx), .ref (L .mk), .ref (L .hd), .int s.time, .ref (L .ats), .ref (L .ev)]) := by rw [hc]; exact h.gk
include kt
theorem free_ok (h : KRd S L s) (wf : Kwf N s) (hb : inR s b) (w : Q (.d (.bl (s.free a b))) S) : cal T (n + 1) 183 [.d (.ref (L .k)), .d (.int a), .d (.int b)] S Q := by
  refine ⟨_, kt.f183, rfl, rfl, ?_⟩
  generalize cal T n = c
  have hg : getI (s.holders.map optD) b = some (optD (s.holders.getD b.toNat none)) := getI_get hb.1 (by rw [wf.hl]; exact hb.2)
  unfold Ks.free at w
  generalize s.holders.getD b.toNat none = o at hg w
  cases o with
  | none => exact ⟨_, rfl, ⟨_, _, rfl, h.gk, ⟨_, rfl, ⟨_, rfl, ⟨_, h.ghd, ⟨_, hg, ⟨_, rfl, Br.tt w⟩⟩⟩⟩⟩⟩⟩
  | some c => exact ⟨_, rfl, ⟨_, _, rfl, h.gk, ⟨_, rfl, ⟨_, rfl, ⟨_, h.ghd, ⟨_, hg, ⟨_, rfl, Br.ff ⟨_, rfl, ⟨_, _, rfl, h.gk, ⟨_, rfl, ⟨_, rfl, ⟨_, h.ghd, ⟨_, hg, ⟨_, rfl, ⟨rfl, rfl, w⟩⟩⟩⟩⟩⟩⟩⟩⟩⟩⟩⟩⟩⟩⟩
theorem still_ok (h : KRd S L s) (wf : Kwf N s) (hN : N ≤ 50000) (hl : S (L (.lk a)) = some (.dic (lkD (kys t.looked)))) (ha : pget s.atts a = some t) (w : Q (.d (.bl (s.still a t))) S) : cal T (n + 2) 184 [.d (.ref (L .k)), .d (.int a)] S Q := by
  refine ⟨_, kt.f184, rfl, rfl, ?_⟩
  have cf := fun (S : Hs) (b : Int) Q (h : KRd S L s) (hb : inR s b) => free_ok kt n (a := a) (Q := Q) h wf hb
  generalize cal T (n + 1) = c at cf ⊢
  have ga : dget (s.atts.map fun e => (D.int e.1, D.ref (L (.i e.1)))) (.int a) = some (.ref (L (.i a))) := by rw [dget_ats, ha]; rfl
  refine ⟨_, rfl, ⟨_, _, rfl, h.gk, ⟨_, rfl, ⟨_, rfl, ⟨_, h.gats, ⟨rfl, ⟨_, ga, ?_⟩⟩⟩⟩⟩⟩⟩
  refine ⟨L (.lk a), _, hl, fun ho => ?_⟩
  have h2 := h.lockL ha (.fdc (lkD (kys t.looked)) ho)
  have e2 : (su S (L (.lk a)) (.fdc (lkD (kys t.looked)) ho)) (L (.lk a)) = some (.fdc (lkD (kys t.looked)) ho) := su_same
  refine ⟨_, rfl, ⟨_, _, rfl, h2.gi ha, ⟨_, rfl, ⟨_, _, _, rfl, e2, ?_⟩⟩⟩⟩
  refine compL_fm' D.int (fun b => some (.bl (s.free a b && decide (s.mark b ≤ t.glance)))) (kys t.looked) (by simp [lkD]) e2 (fun b hb P1 P2 h1 _ => ?_) ?_ ?_
  · have hr := (wf.att a t ha).lk b (kys_mem.mp hb)
    refine Br.tt ⟨_, rfl, ⟨_, _, rfl, h2.gkc kt.c183, ⟨_, rfl, ⟨_, rfl, cf _ _ _ h2 hr ?_⟩⟩⟩⟩
    refine Br.mk (fun e => ?_) (fun e => h1 _ (by rw [e]; rfl))
    have hg : getI (s.marks.map D.int) b = some (.int (s.marks.getD b.toNat 0)) := getI_get hr.1 (by rw [wf.ml]; exact hr.2)
    exact ⟨_, rfl, ⟨_, _, rfl, h2.gk, ⟨_, rfl, ⟨_, rfl, ⟨_, h2.gmk, ⟨_, hg, ⟨_, rfl, ⟨_, _, rfl, h2.gi ha, ⟨_, rfl, h1 _ (by rw [e]; rfl)⟩⟩⟩⟩⟩⟩⟩⟩⟩
  · exact Nat.le_trans (kys_len _) (Nat.le_trans (wf.att a t ha).lkl (Nat.le_trans hN (by decide)))
  · refine ⟨_, (kys t.looked).map fun b => s.free a b && decide (s.mark b ≤ t.glance), rfl, by rw [List.map_map, List.filterMap_eq_map']; rfl, ⟨e2, ?_⟩⟩
    rw [su_su, su_id hl, List.all_map]
    have e : ((kys t.looked).all (id ∘ fun b => s.free a b && decide (s.mark b ≤ t.glance))) = s.still a t := kys_all
    rw [e]
    exact w
theorem would_fall_ok (h : KAt S L s) (wf : Kwf N s) (hN : N ≤ 50000) (ha : pget s.atts a = some t) (hb : inR s b) (w : Q (.d (.bl (s.wouldFall a t b))) S) : cal T (n + 3) 185 [.d (.ref (L .k)), .d (.int a), .d (.int b)] S Q := by
  refine ⟨_, kt.f185, rfl, rfl, ?_⟩
  have cf := fun Q => free_ok kt (n + 1) (a := a) (Q := Q) h.rd wf hb
  have cs := fun Q => still_ok kt n (Q := Q) h.rd wf hN (h.glk ha) ha
  generalize cal T (n + 2) = c at cf cs ⊢
  have ga : dget (s.atts.map fun e => (D.int e.1, D.ref (L (.i e.1)))) (.int a) = some (.ref (L (.i a))) := by rw [dget_ats, ha]; rfl
  unfold Ks.wouldFall at w
  refine ⟨_, rfl, ⟨_, _, rfl, h.rd.gkc kt.c183, ⟨_, rfl, ⟨_, rfl, cf _ ?_⟩⟩⟩⟩
  refine Br.mk (fun e => ?_) (fun e => ?_)
  · rw [e] at w; exact w
  · rw [e, Bool.false_or] at w
    have hg : getI (s.marks.map D.int) b = some (.int (s.marks.getD b.toNat 0)) := getI_get hb.1 (by rw [wf.ml]; exact hb.2)
    refine ⟨_, rfl, ⟨_, _, rfl, h.gk, ⟨_, rfl, ⟨_, rfl, ⟨_, h.rd.gmk, ⟨_, hg, ⟨_, rfl, ⟨_, _, rfl, h.gk, ⟨_, rfl, ⟨_, rfl, ⟨_, h.rd.gats, ⟨rfl, ⟨_, ga, ⟨_, _, rfl, h.gi ha, ⟨_, rfl, ?_⟩⟩⟩⟩⟩⟩⟩⟩⟩⟩⟩⟩⟩⟩⟩
    refine Br.mk (fun e2 => ?_) (fun e2 => ?_)
    · refine ⟨_, rfl, ⟨_, _, rfl, h.rd.gkc kt.c184, ⟨_, rfl, cs _ ?_⟩⟩⟩
      rw [show decide (t.glance < s.mark b) = true from e2, Bool.true_and] at w
      exact w
    · rw [show decide (t.glance < s.mark b) = false from e2] at w
      exact w
theorem open_one_ok (h : KAt S L s) (ha : pget s.atts a = some t) (ho : t.opn = true) (w : Q (.d (.ref (L (.i a)))) S) : cal T (n + 1) 179 [.d (.ref (L .k)), .d (.int a)] S Q := by
  refine ⟨_, kt.f179, rfl, rfl, ?_⟩
  generalize cal T n = c
  have ga : dget (s.atts.map fun e => (D.int e.1, D.ref (L (.i e.1)))) (.int a) = some (.ref (L (.i a))) := by rw [dget_ats, ha]; rfl
  refine ⟨_, rfl, ⟨_, rfl, ⟨_, _, rfl, h.gk, ⟨_, rfl, ⟨_, h.rd.gats, ⟨rfl, ?_⟩⟩⟩⟩⟩⟩
  rw [dhas_ats, ha]
  refine Br.ff ?_
  refine ⟨_, rfl, ⟨_, _, rfl, h.gk, ⟨_, rfl, ⟨_, rfl, ⟨_, h.rd.gats, ⟨rfl, ⟨_, ga, ⟨_, _, rfl, h.gi ha, ⟨_, rfl, ?_⟩⟩⟩⟩⟩⟩⟩⟩⟩
  rw [ho]
  exact Br.ff ⟨_, rfl, ⟨_, _, rfl, h.gk, ⟨_, rfl, ⟨_, rfl, ⟨_, h.rd.gats, ⟨rfl, ⟨_, ga, w⟩⟩⟩⟩⟩⟩⟩
theorem going_one_ok (h : KAt S L s) (ha : pget s.atts a = some t) (ho : t.opn = true) (hs : t.stamp = none) (w : Q (.d (.ref (L (.i a)))) S) : cal T (n + 2) 180 [.d (.ref (L .k)), .d (.int a)] S Q := by
  refine ⟨_, kt.f180, rfl, rfl, ?_⟩
  have c1 := fun Q => open_one_ok kt n (Q := Q) h ha ho
  generalize cal T (n + 1) = c at c1 ⊢
  refine ⟨_, rfl, ⟨_, _, rfl, h.rd.gkc kt.c179, ⟨_, rfl, c1 _ ?_⟩⟩⟩
  have e : optD t.stamp = .non := by rw [hs]; rfl
  refine ⟨_, rfl, ⟨_, _, rfl, h.gi ha, ⟨_, rfl, ?_⟩⟩⟩
  rw [e]
  exact ⟨_, rfl, Br.ff ⟨_, rfl, w⟩⟩
theorem ends_ok {word : List Nat} (h : KAt S L s) (wf : Kwf N s) (hN : N ≤ 50000) (ha : pget s.atts a = some t) (w : ∀ S', KStep S L s S' L (s.ends a t word) → Q (.d .non) S') : cal T (n + 1) 182 [.d (.ref (L .k)), .d (.int a), .d (.str word)] S Q := by
  refine ⟨_, kt.f182, rfl, rfl, ?_⟩
  generalize cal T n = c
  have ga : dget (s.atts.map fun e => (D.int e.1, D.ref (L (.i e.1)))) (.int a) = some (.ref (L (.i a))) := by rw [dget_ats, ha]; rfl
  refine ⟨_, rfl, ⟨_, _, rfl, h.gk, ⟨_, rfl, ⟨_, rfl, ⟨_, h.rd.gats, ⟨rfl, ⟨_, ga, ⟨_, _, rfl, h.gi ha, Nat.le_of_ble_eq_true rfl, ?_⟩⟩⟩⟩⟩⟩⟩⟩
  have st := h.ui ha { t with opn := false } rfl rfl rfl
  show DL.wpS T c _ _ (su S (L (.i a)) (objI L a { t with opn := false })) _ _ _ _
  generalize su S (L (.i a)) (objI L a { t with opn := false }) = S1 at st ⊢
  have k1 := st.to
  refine ⟨_, rfl, ⟨_, _, rfl, k1.gk, ⟨_, rfl, ⟨_, _, rfl, k1.at_ .ev _ rfl, ⟨_, rfl, ⟨_, rfl, ⟨_, rfl, Nat.le_of_ble_eq_true rfl, ⟨_, k1.at_ .ev _ rfl, ⟨?_, ⟨_, rfl, ?_⟩⟩⟩⟩⟩⟩⟩⟩⟩⟩
  · exact Nat.lt_of_le_of_lt (Nat.le_trans wf.el hN) (by decide)
  · exact w _ (st.trans (k1.uev _))
end
end LU

/-! K3: the keeper's steps: look, put, fall. -/
namespace LU
open PySem L2 PySem.Spec PyProof.Rows DL LW
local macro_rules | `(tactic| walk_at "s1") => `(tactic| first | with_reducible refine one1_i ?_ | with_reducible refine storD ?_ | with_reducible refine storV ?_ | with_reducible refine storVd ?_ | refine ⟨_, rfl, ?_⟩ | refine ⟨_, _, rfl, by assumption, ?_⟩ | refine ⟨_, _, _, rfl, by assumption, rfl, ?_⟩ | refine ⟨_, by assumption, ?_⟩ | refine ⟨rfl, ?_⟩ | refine ⟨Nat.le_of_ble_eq_true rfl, ?_⟩)
local macro_rules | `(tactic| walk_at "go") => `(tactic| (walk_at "s1"; repeat ((fail_if_success with_reducible refine isS ?_); walk_at "s1")))
local macro_rules | `(tactic| walk_at "run") => `(tactic| repeat walk_at "s1")
/-- what stands behind the first n statements -/
def sqn : Nat → R → R
  | 0, r => r
  | n + 1, .seq _ r => sqn n r
  | _, r => r
abbrev sLook : List Nat := [108, 111, 111, 107]
abbrev sPut : List Nat := [112, 117, 116]
abbrev sDone : List Nat := [100, 111, 110, 101]
abbrev sFall : List Nat := [102, 97, 108, 108]
abbrev sFalls : List Nat := [102, 97, 108, 108, 115]
abbrev sNumber : List Nat := [110, 117, 109, 98, 101, 114]
abbrev sTaken : List Nat := [116, 97, 107, 101, 110]
abbrev sWritten : List Nat := [119, 114, 105, 116, 116, 101, 110]
abbrev sBegin : List Nat := [98, 101, 103, 105, 110]
abbrev sTake : List Nat := [116, 97, 107, 101]
abbrev sWrite : List Nat := [119, 114, 105, 116, 101]
abbrev e2 (w : List Nat) (a : Int) : D := .tup [.str w, .int a]
abbrev e4 (w : List Nat) (a b v : Int) : D := .tup [.str w, .int a, .int b, .int v]
abbrev rNum (v : Int) : D := .tup [.str sNumber, .int v]
abbrev rFalls : D := .tup [.str sFalls]
/-- a look: the keeper behind it, what is told -/
def Att.glanced (t : Att) (s : Ks) (b : Int) : Att := { t with glance := if t.glance < s.mark b then s.time else t.glance, looked := t.looked ++ [b] }
def Ks.look (s : Ks) (a : Int) (t : Att) (b : Int) : Ks × D :=
  match pget t.puts b with
  | some v => (s.evt (e4 sLook a b v), rNum v)
  | none => if s.wouldFall a t b then (s.ends a t sFall, rFalls) else ((s.setA a (t.glanced s b)).evt (e4 sLook a b (s.box b)), rNum (s.box b))
def Ks.put (s : Ks) (a : Int) (t : Att) (b v : Int) : Ks := (s.setA a { t with puts := pput t.puts b v }).evt (e4 sPut a b v)
structure KpT2 (T : Tbl) : Prop where
  c186 : T.fcls 186 = 10
  c187 : T.fcls 187 = 10
  c189 : T.fcls 189 = 10
  c190 : T.fcls 190 = 10
theorem pput_pput {α : Type} {kvs : List (Int × α)} {x : Int} {y z : α} (h : (pget kvs x).isSome) : pput (pput kvs x y) x z = pput kvs x z := by
  have e1 : (pget (pput kvs x y) x).isSome := by rw [pget_put]; simp
  have e2 : pput kvs x y = kvs.map fun p => if p.1 = x then (p.1, y) else p := by unfold pput; rw [if_pos h]
  have e3 : pput kvs x z = kvs.map fun p => if p.1 = x then (p.1, z) else p := by unfold pput; rw [if_pos h]
  have e4 : pput (pput kvs x y) x z = (pput kvs x y).map fun p => if p.1 = x then (p.1, z) else p := by rw [pput, if_pos e1]
  rw [e4, e2, e3, List.map_map]
  refine List.map_congr_left fun p _ => ?_
  show (if (if p.1 = x then (p.1, y) else p).1 = x then ((if p.1 = x then (p.1, y) else p).1, z) else (if p.1 = x then (p.1, y) else p)) = _
  by_cases q : p.1 = x
  · simp [q]
  · simp [q]
theorem setA_setA {s : Ks} {a : Int} {t u v : Att} (h : pget s.atts a = some t) : (s.setA a u).setA a v = s.setA a v := by
  show { s with atts := pput (pput s.atts a u) a v } = { s with atts := pput s.atts a v }
  rw [pput_pput (by rw [h]; rfl)]
theorem setA_get {s : Ks} {a : Int} {t : Att} : pget (s.setA a t).atts a = some t := by
  show pget (pput s.atts a t) a = _
  rw [pget_put, if_pos rfl]
theorem setA_ne {s : Ks} {a b : Int} {t : Att} (h : b ≠ a) : pget (s.setA a t).atts b = pget s.atts b := by
  show pget (pput s.atts a t) b = _
  rw [pget_put, if_neg fun q => h q.symm]
section
variable {T : Tbl} (kt : KpT T) (n : Nat) {N : Nat} {S : Hs} {L : Role → Addr} {s : Ks} {a b v : Int} {t : Att} {Q : VK2}
include kt
theorem look_ok (h : KAt S L s) (wf : Kwf N s) (hN : N ≤ 50000) (c0 : T.fcls 180 = 10) (ha : pget s.atts a = some t) (ho : t.opn = true) (hs : t.stamp = none) (hb : inR s b)
    (w : ∀ S', KStep S L s S' L (s.look a t b).1 → Q (.d (s.look a t b).2) S') : cal T (n + 4) 186 [.d (.ref (L .k)), .d (.int a), .d (.int b)] S Q := by
  refine ⟨_, kt.f186, rfl, rfl, ?_⟩
  have c1 := fun Q => going_one_ok kt (n + 1) (Q := Q) h ha ho hs
  have c2 := fun Q => would_fall_ok kt n (Q := Q) h wf hN ha hb
  have c3 := fun Q => ends_ok kt (n + 2) (word := sFall) (Q := Q) h wf hN ha
  generalize cal T (n + 3) = c at c1 c2 c3 ⊢
  have gk := h.rd.gk
  have gi := h.gi ha
  have gp := h.gpt ha
  have gl := h.glk ha
  have gm := h.rd.gmk
  have ge : S (L .ev) = some (.lst s.events) := h.at_ .ev _ rfl
  have gb : S (L .bx) = some (.lst (s.boxes.map D.int)) := h.at_ .bx _ rfl
  have el : s.events.length < sizeLine := Nat.lt_of_le_of_lt (Nat.le_trans wf.el hN) (by decide)
  refine ⟨_, rfl, ⟨_, _, rfl, h.rd.gkc c0, ⟨_, rfl, c1 _ ?_⟩⟩⟩
  walk_at "run"
  rw [dhas_enc]
  unfold Ks.look at w
  cases hp : pget t.puts b with
  | some v =>
    rw [hp] at w
    have e0 : dget (encI D.int t.puts) (.int b) = some (.int v) := by rw [dget_enc, hp]; rfl
    refine Br.tt ?_
    walk_at "go"
    have st := h.uev (e4 sLook a b v)
    refine ⟨el, ?_⟩
    walk_at "go"
    show DL.wpS T c _ _ (su S (L .ev) (.lst (s.events ++ [e4 sLook a b v]))) _ _ _ _
    generalize su S (L .ev) (.lst (s.events ++ [e4 sLook a b v])) = S1 at st ⊢
    have gi1 := st.to.gi (t := t) ha
    have gp1 := st.to.gpt (t := t) ha
    walk_at "go"
    exact w _ st
  | none =>
    rw [hp] at w
    refine Br.ff ?_
    refine ⟨_, rfl, ⟨_, _, rfl, by rw [kt.c185]; exact gk, ⟨_, rfl, ⟨_, rfl, c2 _ ?_⟩⟩⟩⟩
    dsimp only at w
    cases hw : s.wouldFall a t b with
    | true =>
      rw [hw, if_pos rfl] at w
      refine Br.tt ?_
      have g182 := h.rd.gkc kt.c182
      walk_at "run"
      refine c3 _ fun S1 st => ?_
      exact ⟨_, rfl, Nat.le_of_ble_eq_true rfl, w _ st⟩
    | false =>
      rw [hw, if_neg (by decide)] at w
      refine Br.ff ?_
      have hg : getI (s.marks.map D.int) b = some (.int (s.mark b)) := getI_get hb.1 (by rw [wf.ml]; exact hb.2)
      have hbx : getI (s.boxes.map D.int) b = some (.int (s.box b)) := getI_get hb.1 hb.2
      have rest : ∀ S1 s1 t1, KStep S L s S1 L s1 → pget s1.atts a = some t1 → s1.boxes = s.boxes → s1.events = s.events → t1.looked = t.looked → (∀ S', KStep S1 L s1 S' L ((s1.setA a { t1 with looked := t1.looked ++ [b] }).evt (e4 sLook a b (s.box b))) → Q (.d (rNum (s.box b))) S') →
          DL.wpS T c (sqn 4 f_Keeper_look.body) [some (.d (.ref (L .k))), some (.d (.int a)), some (.d (.int b)), some (.d (.ref (L (.i a))))] S1 (fun _ S' => Q (.d .non) S') Q (fun _ _ => False) (fun _ _ => False) := by
        intro S1 s1 t1 st h1 hbb hev hlk k
        have gi := st.to.gi h1
        have gl := st.to.glk h1
        have ll : (kys t1.looked).length < sizeLine := by
          rw [hlk]
          exact Nat.lt_of_le_of_lt (Nat.le_trans (kys_len _) (Nat.le_trans (wf.att a t ha).lkl hN)) (by decide)
        walk_at "go"
        refine ⟨?_, ?_⟩
        · show (lkD (kys t1.looked)).length < sizeLine
          rw [List.length_map]; exact ll
        rw [dput_lk, ← kys_snoc]
        walk_at "go"
        have st2 := st.to.ulk h1 (t1.looked ++ [b])
        show DL.wpS T c _ _ (su S1 (L (.lk a)) (.dic (lkD (kys (t1.looked ++ [b]))))) _ _ _ _
        generalize su S1 (L (.lk a)) (.dic (lkD (kys (t1.looked ++ [b])))) = S2 at st2 ⊢
        have gk := st2.to.gk
        have ge : S2 (L .ev) = some (.lst s.events) := by rw [← hev]; exact st2.to.at_ .ev _ rfl
        have gb : S2 (L .bx) = some (.lst (s.boxes.map D.int)) := by rw [← hbb]; exact st2.to.at_ .bx _ rfl
        walk_at "go"
        refine ⟨el, ?_⟩
        walk_at "go"
        have st3 := st2.to.uev (e4 sLook a b (s.box b))
        have e : (s1.setA a { t1 with looked := t1.looked ++ [b] }).events = s.events := hev
        rw [e] at st3
        show DL.wpS T c _ _ (su S2 (L .ev) (.lst (s.events ++ [e4 sLook a b (s.box b)]))) _ _ _ _
        generalize su S2 (L .ev) (.lst (s.events ++ [e4 sLook a b (s.box b)])) = S3 at st3 ⊢
        have gk := st3.to.gk
        have gb : S3 (L .bx) = some (.lst (s.boxes.map D.int)) := by rw [← hbb]; exact st3.to.at_ .bx _ rfl
        walk_at "go"
        exact k _ (st2.trans st3)
      walk_at "go"
      refine Br.mk (fun q => ?_) (fun q => ?_)
      · have q : t.glance < s.mark b := of_decide_eq_true q
        walk_at "go"
        have st := h.ui ha { t with glance := s.time } rfl rfl rfl
        show DL.wpS T c _ _ (su S (L (.i a)) (objI L a { t with glance := s.time })) _ _ _ _
        generalize su S (L (.i a)) (objI L a { t with glance := s.time }) = S1 at st ⊢
        refine rest S1 _ _ st setA_get rfl rfl rfl fun S' st2 => w _ ?_
        have z := st.trans st2
        rw [setA_setA ha] at z
        rw [show t.glanced s b = { t with glance := s.time, looked := t.looked ++ [b] } by unfold Att.glanced; rw [if_pos q]]
        exact z
      · have q : ¬ t.glance < s.mark b := of_decide_eq_false q
        refine rest S _ _ (KAt.refl h) ha rfl rfl rfl fun S' st2 => w _ ?_
        rw [show t.glanced s b = { t with looked := t.looked ++ [b] } by unfold Att.glanced; rw [if_neg q]]
        exact st2
theorem put_ok (h : KAt S L s) (wf : Kwf N s) (hN : N ≤ 50000) (c0 : T.fcls 180 = 10) (f187 : T.fn 187 = some f_Keeper_put) (ha : pget s.atts a = some t) (ho : t.opn = true) (hs : t.stamp = none)
    (w : ∀ S', KStep S L s S' L (s.put a t b v) → Q (.d .non) S') : cal T (n + 3) 187 [.d (.ref (L .k)), .d (.int a), .d (.int b), .d (.int v)] S Q := by
  refine ⟨_, f187, rfl, rfl, ?_⟩
  have c1 := fun Q => going_one_ok kt n (Q := Q) h ha ho hs
  generalize cal T (n + 2) = c at c1 ⊢
  have gk := h.rd.gk
  have gkc := h.rd.gkc c0
  have gi := h.gi ha
  have gp := h.gpt ha
  have el : s.events.length < sizeLine := Nat.lt_of_le_of_lt (Nat.le_trans wf.el hN) (by decide)
  walk_at "go"
  refine c1 _ ?_
  walk_at "go"
  refine ⟨?_, ?_⟩
  · show (encI D.int t.puts).length < sizeLine
    unfold encI
    rw [List.length_map]
    exact Nat.lt_of_le_of_lt (Nat.le_trans (wf.att a t ha).ptl hN) (by decide)
  rw [dput_enc]
  walk_at "go"
  have st := h.upt ha (pput t.puts b v)
  show DL.wpS T c _ _ (su S (L (.pt a)) (.dic (encI D.int (pput t.puts b v)))) _ _ _ _
  generalize su S (L (.pt a)) (.dic (encI D.int (pput t.puts b v))) = S1 at st ⊢
  have gk := st.to.gk
  have ge : S1 (L .ev) = some (.lst s.events) := st.to.at_ .ev _ rfl
  walk_at "go"
  refine ⟨el, ?_⟩
  walk_at "run"
  exact w _ (st.trans (st.to.uev (e4 sPut a b v)))
theorem fall_ok (h : KAt S L s) (wf : Kwf N s) (hN : N ≤ 50000) (c0 : T.fcls 180 = 10) (f191 : T.fn 191 = some f_Keeper_fall) (ha : pget s.atts a = some t) (ho : t.opn = true) (hs : t.stamp = none)
    (w : ∀ S', KStep S L s S' L (s.ends a t sFall) → Q (.d .non) S') : cal T (n + 3) 191 [.d (.ref (L .k)), .d (.int a)] S Q := by
  refine ⟨_, f191, rfl, rfl, ?_⟩
  have c1 := fun Q => going_one_ok kt n (Q := Q) h ha ho hs
  have c3 := fun Q => ends_ok kt (n + 1) (word := sFall) (Q := Q) h wf hN ha
  generalize cal T (n + 2) = c at c1 c3 ⊢
  have gkc := h.rd.gkc c0
  have g182 := h.rd.gkc kt.c182
  walk_at "go"
  refine c1 _ ?_
  walk_at "run"
  exact c3 _ fun S1 st => w _ st
omit kt
theorem klog_ok {k : Nat} (hT : T.fn k = some f_Keeper_log) (h : KAt S L s) (w : Q (.vl s.events) S) : cal T (n + 1) k [.d (.ref (L .k))] S Q := by
  refine ⟨_, hT, rfl, rfl, ?_⟩
  have gk := h.gk
  have ge : S (L .ev) = some (.lst s.events) := h.at_ .ev _ rfl
  walk_at "run"
  exact w
theorem know_ok {k : Nat} (hT : T.fn k = some f_Keeper_now) (h : KAt S L s) (w : Q (.d (.tup (s.boxes.map D.int))) S) : cal T (n + 1) k [.d (.ref (L .k))] S Q := by
  refine ⟨_, hT, rfl, rfl, ?_⟩
  have gk := h.gk
  have gb : S (L .bx) = some (.lst (s.boxes.map D.int)) := h.at_ .bx _ rfl
  walk_at "run"
  exact w
theorem kclock_ok {k : Nat} (hT : T.fn k = some f_Keeper_clock) (h : KAt S L s) (w : Q (.d (.int s.time)) S) : cal T (n + 1) k [.d (.ref (L .k))] S Q := by
  refine ⟨_, hT, rfl, rfl, ?_⟩
  have gk := h.gk
  walk_at "run"
  exact w
theorem kmark_ok {k : Nat} (hT : T.fn k = some f_Keeper_mark) (h : KAt S L s) (wf : Kwf N s) (hb : inR s b) (w : Q (.d (.int (s.mark b))) S) : cal T (n + 1) k [.d (.ref (L .k)), .d (.int b)] S Q := by
  refine ⟨_, hT, rfl, rfl, ?_⟩
  have gk := h.gk
  have gm := h.rd.gmk
  have hg : getI (s.marks.map D.int) b = some (.int (s.mark b)) := getI_get hb.1 (by rw [wf.ml]; exact hb.2)
  walk_at "run"
  exact w
end
end LU

/-! K4: the keeper's taking. -/
namespace LU
open PySem L2 PySem.Spec PyProof.Rows DL LW
local macro_rules | `(tactic| walk_at "s1") => `(tactic| first | with_reducible refine one1_i ?_ | with_reducible refine storD ?_ | with_reducible refine storV ?_ | with_reducible refine storVd ?_ | refine ⟨_, rfl, ?_⟩ | refine ⟨_, _, rfl, by assumption, ?_⟩ | refine ⟨_, _, _, rfl, by assumption, rfl, ?_⟩ | refine ⟨_, by assumption, ?_⟩ | refine ⟨rfl, ?_⟩ | refine ⟨Nat.le_of_ble_eq_true rfl, ?_⟩)
local macro_rules | `(tactic| walk_at "go") => `(tactic| (walk_at "s1"; repeat ((fail_if_success with_reducible refine isS ?_); walk_at "s1")))
local macro_rules | `(tactic| walk_at "run") => `(tactic| repeat walk_at "s1")
def Att.keys (t : Att) : List Int := t.puts.map Prod.fst
def Ks.canTake (s : Ks) (a : Int) (t : Att) : Bool := s.still a t && t.keys.all (s.free a)
def Ks.holds (s : Ks) (bs : List Int) (o : Option Int) : Ks := { s with holders := bs.foldl (fun h b => h.set b.toNat o) s.holders }
def Ks.takes (s : Ks) (a : Int) (t : Att) : Ks := ({ s with time := s.time + 1 }.setA a { t with stamp := some (s.time + 1), left := srt t.keys }).holds (srt t.keys) (some a)
def Ks.take (s : Ks) (a : Int) (t : Att) : Ks × D :=
  if t.puts = [] then (s.ends a t sDone, .str sDone)
  else if s.canTake a t then (s.takes a t, .str sTaken)
  else (s.ends a t sFall, .str sFalls)
theorem setI_opt {l : List (Option Int)} {i : Int} {v : Option Int} {K : Cn → D → Prop} {S : Hs} (h0 : 0 ≤ i) (h1 : i < l.length) (k : K (.l ((l.set i.toNat v).map optD)) .non) : mutC .setI (.l (l.map optD)) [.d (.int i), .d (optD v)] S K := by
  obtain ⟨n, rfl⟩ := Int.eq_ofNat_of_zero_le h0
  refine ⟨by rw [List.length_map]; omega, ?_⟩
  rw [List.map_set] at k
  exact k
theorem setI_ints {l : List Int} {i v : Int} {K : Cn → D → Prop} {S : Hs} (h0 : 0 ≤ i) (h1 : i < l.length) (k : K (.l ((l.set i.toNat v).map D.int)) .non) : mutC .setI (.l (l.map D.int)) [.d (.int i), .d (.int v)] S K := by
  obtain ⟨n, rfl⟩ := Int.eq_ofNat_of_zero_le h0
  refine ⟨by rw [List.length_map]; omega, ?_⟩
  rw [List.map_set] at k
  exact k
section
variable {S : Hs} {L : Role → Addr} {s : Ks} {a : Int} {t : Att}
/-- a new list of what is left -/
theorem KAt.nlf (h : KAt S L s) (ha : pget s.atts a = some t) {x : Addr} (hx : S x = none) (l : List Int) :
    KStep S L s (su (su S x (.lst (l.map D.int))) (L (.i a)) (.ins 9 [.int t.glance, .ref (L (.lk a)), .ref (L (.pt a)), .ref x, optD t.stamp, .bl t.opn])) (mv L (.lf a) x) (s.setA a { t with left := l }) := by
  have eo : objI (mv L (.lf a) x) a { t with left := l } = .ins 9 [.int t.glance, .ref (L (.lk a)), .ref (L (.pt a)), .ref x, optD t.stamp, .bl t.opn] := by
    unfold objI
    rw [mv_same, mv_ne (fun q => by cases q), mv_ne (fun q => by cases q)]
  rw [← eo]
  obtain ⟨e1, e2, e3⟩ := objK_setA (L := mv L (.lf a) x) ha { t with left := l }
  have m : ∀ r, r ≠ .lf a → mv L (.lf a) x r = L r := fun r z => mv_ne z
  refine ⟨At.move h (.lf a) (.i a) hx (by rw [oi ha]; rfl) (fun q => by cases q) (fun r z1 z2 => ?_) ?_ ?_, mv_ne (fun q => by cases q)⟩
  · cases r with
    | i b =>
      have q : b ≠ a := fun q => z2 (by rw [q])
      show (pget (s.setA a _).atts b).map _ = (pget s.atts b).map _
      rw [e2 b q]
      cases pget s.atts b with
      | none => rfl
      | some u =>
        show some (objI _ b u) = some (objI _ b u)
        unfold objI
        rw [m (.lk b) (fun q => by cases q), m (.pt b) (fun q => by cases q), m (.lf b) (fun z => q (by cases z; rfl))]
    | lk b =>
      show (pget (s.setA a _).atts b).map _ = (pget s.atts b).map _
      by_cases q : b = a
      · subst q; rw [e3, ha]; rfl
      · rw [e2 b q]
    | pt b =>
      show (pget (s.setA a _).atts b).map _ = (pget s.atts b).map _
      by_cases q : b = a
      · subst q; rw [e3, ha]; rfl
      · rw [e2 b q]
    | lf b =>
      have q : b ≠ a := fun q => z1 (by rw [q])
      show (pget (s.setA a _).atts b).map _ = (pget s.atts b).map _
      rw [e2 b q]
    | ats =>
      rw [e1 _ (fun b => ⟨(by intro q; cases q), (by intro q; cases q), (by intro q; cases q), (by intro q; cases q)⟩)]
      rfl
    | _ =>
      rw [e1 _ (fun b => ⟨(by intro q; cases q), (by intro q; cases q), (by intro q; cases q), (by intro q; cases q)⟩)]
      rfl
  · show (pget (s.setA a _).atts a).map _ = _
    rw [e3]; rfl
  · show (pget (s.setA a _).atts a).map _ = _
    rw [e3]; rfl
end
theorem canTake_lk (L : Role → Addr) (s : Ks) (a : Int) (t : Att) (h : KAt S L s) (ha : pget s.atts a = some t) : L (.lk a) ≠ L (.pt a) := fun e => by
  have := h.inj _ _ (by rw [olk ha]; rfl) (by rw [opt ha]; rfl) e
  cases this
section
variable {T : Tbl} (kt : KpT T) (n : Nat) {N : Nat} {S : Hs} {L : Role → Addr} {s : Ks} {a b v : Int} {t : Att} {Q : VK2}
include kt
theorem can_take_ok (h : KAt S L s) (wf : Kwf N s) (hN : N ≤ 50000) (ha : pget s.atts a = some t) (w : Q (.d (.bl (s.canTake a t))) S) : cal T (n + 3) 188 [.d (.ref (L .k)), .d (.int a)] S Q := by
  refine ⟨_, kt.f188, rfl, rfl, ?_⟩
  have c1 := fun (S : Hs) Q (h : KRd S L s) hl => still_ok kt n (Q := Q) h wf hN hl ha
  have c2 := fun (S : Hs) (b : Int) Q (h : KRd S L s) (hb : inR s b) => free_ok kt (n + 1) (a := a) (Q := Q) h wf hb
  generalize cal T (n + 2) = c at c1 c2 ⊢
  have gp := h.gpt ha
  refine ⟨L (.pt a), _, gp, fun ho => ?_⟩
  have h2 := h.rd.lockP ha (.fdc (encI D.int t.puts) ho)
  have gl : (su S (L (.pt a)) (.fdc (encI D.int t.puts) ho)) (L (.lk a)) = some (.dic (lkD (kys t.looked))) := by rw [su_ne (canTake_lk L s a t h ha)]; exact h.glk ha
  have ep : (su S (L (.pt a)) (.fdc (encI D.int t.puts) ho)) (L (.pt a)) = some (.fdc (encI D.int t.puts) ho) := su_same
  have back : su (su S (L (.pt a)) (.fdc (encI D.int t.puts) ho)) (L (.pt a)) (.dic (encI D.int t.puts)) = S := by rw [su_su, su_id gp]
  generalize su S (L (.pt a)) (.fdc (encI D.int t.puts) ho) = S1 at h2 gl ep back ⊢
  have gk := h2.gk
  have g184 := h2.gkc kt.c184
  have g183 := h2.gkc kt.c183
  have gi := h2.gi ha
  have gats := h2.gats
  have ga : dget (s.atts.map fun e => (D.int e.1, D.ref (L (.i e.1)))) (.int a) = some (.ref (L (.i a))) := by rw [dget_ats, ha]; rfl
  walk_at "run"
  refine c1 _ _ h2 gl ?_
  unfold Ks.canTake at w
  cases q : s.still a t with
  | false =>
    rw [q] at w
    refine Br.ff ⟨ep, ?_⟩
    rw [back]; exact w
  | true =>
    rw [q, Bool.true_and] at w
    refine Br.tt ?_
    walk_at "run"
    refine ⟨_, _, _, rfl, ep, ?_⟩
    refine compL_fm' D.int (fun b => some (.bl (s.free a b))) t.keys (by simp [encI, Att.keys]) ep (fun b hb P1 P2 h1 _ => ?_) ?_ ?_
    · have hr : inR s b := by
        obtain ⟨p, hp, rfl⟩ := List.mem_map.mp hb
        exact (wf.att a t ha).pt p hp
      refine Br.tt ?_
      walk_at "run"
      exact c2 _ _ _ h2 hr (h1 _ rfl)
    · unfold Att.keys
      rw [List.length_map]
      exact Nat.le_trans (wf.att a t ha).ptl (Nat.le_trans hN (by decide))
    · refine ⟨_, t.keys.map (s.free a), rfl, by rw [List.map_map, List.filterMap_eq_map']; rfl, ?_⟩
      have e : (t.keys.map (s.free a)).all id = t.keys.all (s.free a) := by rw [List.all_map]; rfl
      rw [e]
      refine ⟨ep, ?_⟩
      rw [back]; exact w
omit kt
theorem holds_holds (s : Ks) (l : List Int) (b : Int) (o : Option Int) : (s.holds l o).holds [b] o = s.holds (l ++ [b]) o := by
  unfold Ks.holds
  simp [List.foldl_append]
theorem holds_len (l : List Int) (o : Option Int) : ∀ h : List (Option Int), (l.foldl (fun h b => h.set b.toNat o) h).length = h.length := by
  induction l with
  | nil => intro h; rfl
  | cons b l ih => intro h; rw [List.foldl_cons, ih, List.length_set]
theorem KStep.get {S' : Hs} {L' : Role → Addr} {s' : Ks} (st : KStep S L s S' L' s') : KAt S' L' s' := st.to
theorem keys_len (wf : Kwf N s) (ha : pget s.atts a = some t) : t.keys.length < 64 := by
  have h := wf.att a t ha
  have := nodup_le s.boxes.length t.keys h.ptn (fun x hx => by
    obtain ⟨p, hp, rfl⟩ := List.mem_map.mp hx
    exact h.pt p hp)
  have := wf.bl
  omega
include kt
theorem take_ok (h : KAt S L s) (wf : Kwf N s) (hN : N ≤ 50000) (c0 : T.fcls 180 = 10) (ha : pget s.atts a = some t) (ho : t.opn = true) (hs : t.stamp = none)
    (w : ∀ S' L', KStep S L s S' L' (s.take a t).1 → Q (.d (s.take a t).2) S') : cal T (n + 4) 189 [.d (.ref (L .k)), .d (.int a)] S Q := by
  refine ⟨_, kt.f189, rfl, rfl, ?_⟩
  have c1 := fun Q => going_one_ok kt (n + 1) (Q := Q) h ha ho hs
  have c2 := fun Q => can_take_ok kt n (Q := Q) h wf hN ha
  have c3 := fun Q w => ends_ok kt (n + 2) (word := w) (Q := Q) h wf hN ha
  generalize cal T (n + 3) = c at c1 c2 c3 ⊢
  have gk := h.gk
  have gi := h.gi ha
  have gp := h.gpt ha
  have g180 := h.rd.gkc c0
  have g182 := h.rd.gkc kt.c182
  have g188 := h.rd.gkc kt.c188
  walk_at "go"
  refine c1 _ ?_
  walk_at "run"
  unfold Ks.take at w
  have ee : (encI D.int t.puts).isEmpty = decide (t.puts = []) := by cases t.puts <;> rfl
  rw [ee]
  by_cases q1 : t.puts = []
  · rw [if_pos q1] at w
    rw [decide_eq_true q1]
    refine Br.tt ?_
    walk_at "run"
    refine c3 _ _ fun S1 st => w _ _ st
  rw [if_neg q1] at w
  rw [decide_eq_false q1]
  refine Br.ff ?_
  walk_at "run"
  refine c2 _ ?_
  cases q2 : s.canTake a t with
  | false =>
    rw [q2, if_neg (by decide)] at w
    refine Br.tt ?_
    walk_at "run"
    refine c3 _ _ fun S1 st => ?_
    walk_at "run"
    exact w _ _ st
  | true =>
    rw [q2, if_pos rfl] at w
    refine Br.ff ?_
    walk_at "go"
    have st1 := h.utm (s.time + 1)
    show DL.wpS T c _ _ (su S (L .k) (.ins 10 [s.world, .ref (L .bx), .ref (L .mk), .ref (L .hd), .int (s.time + 1), .ref (L .ats), .ref (L .ev)])) _ _ _ _
    generalize su S (L .k) (.ins 10 [s.world, .ref (L .bx), .ref (L .mk), .ref (L .hd), .int (s.time + 1), .ref (L .ats), .ref (L .ev)]) = S1 at st1 ⊢
    have gk := st1.to.gk
    have gi := st1.to.gi (t := t) ha
    walk_at "go"
    have st2 := st1.to.ui (t := t) ha { t with stamp := some (s.time + 1) } rfl rfl rfl
    show DL.wpS T c _ _ (su S1 (L (.i a)) (objI L a { t with stamp := some (s.time + 1) })) _ _ _ _
    generalize su S1 (L (.i a)) (objI L a { t with stamp := some (s.time + 1) }) = S2 at st2 ⊢
    have st2 := st1.trans st2
    have gi := st2.to.gi setA_get
    have gp := st2.to.gpt setA_get
    refine ⟨_, rfl, ⟨_, _, rfl, gi, ⟨_, rfl, ⟨_, gp, t.keys, .inr ⟨_, rfl, by simp [encI, Att.keys], keys_len wf ha⟩, fun ns hp hw => ?_⟩⟩⟩⟩
    have en := srt_eq hp hw
    subst en
    intro x hx
    have nx : L (.i a) ≠ x := fun q => by rw [← q, gi] at hx; cases hx
    have gi3 : (su S2 x (.lst ((srt t.keys).map D.int))) (L (.i a)) = some (objI L a { t with stamp := some (s.time + 1) }) := by rw [su_ne nx]; exact gi
    refine ⟨_, rfl, ⟨_, _, rfl, gi3, Nat.le_of_ble_eq_true rfl, ?_⟩⟩
    have st3 := st2.to.nlf setA_get hx (srt t.keys)
    have st3 := st2.trans st3
    rw [setA_setA (s := { s with time := s.time + 1 }) (t := t) ha] at st3
    have st3 : KStep S L s (su (su S2 x (.lst ((srt t.keys).map D.int))) (L (.i a)) (.ins 9 [.int t.glance, .ref (L (.lk a)), .ref (L (.pt a)), .ref x, .int (s.time + 1), .bl t.opn])) (mv L (.lf a) x) (({ s with time := s.time + 1 } : Ks).setA a { t with stamp := some (s.time + 1), left := srt t.keys }) := st3
    show DL.wpS T c _ _ (su (su S2 x (.lst ((srt t.keys).map D.int))) (L (.i a)) (.ins 9 [.int t.glance, .ref (L (.lk a)), .ref (L (.pt a)), .ref x, .int (s.time + 1), .bl t.opn])) _ _ _ _
    generalize su (su S2 x (.lst ((srt t.keys).map D.int))) (L (.i a)) (.ins 9 [.int t.glance, .ref (L (.lk a)), .ref (L (.pt a)), .ref x, .int (s.time + 1), .bl t.opn]) = S3 at st3 ⊢
    generalize hL : mv L (.lf a) x = L' at st3
    have eI : L (.i a) = L' (.i a) := by rw [← hL, mv_ne (fun q => by cases q)]
    have eK : L .k = L' .k := by rw [← hL, mv_ne (fun q => by cases q)]
    rw [eI, eK]
    have e3 : pget (({ s with time := s.time + 1 } : Ks).setA a { t with stamp := some (s.time + 1), left := srt t.keys }).atts a = some { t with stamp := some (s.time + 1), left := srt t.keys } := setA_get
    have gi := st3.to.gi e3
    have gl := st3.to.glf e3
    walk_at "go"
    refine forL_map' D.int (srt t.keys) rfl (fun rest σ S4 => ∃ (pre : List Int) (x3 : Option Vx), srt t.keys = pre ++ rest ∧ σ = [some (.d (.ref (L' .k))), some (.d (.int a)), some (.d (.ref (L' (.i a)))), x3] ∧ KStep S L s S4 L' ((({ s with time := s.time + 1 } : Ks).setA a { t with stamp := some (s.time + 1), left := srt t.keys }).holds pre (some a))) ?_ ?_ ?_ _ _ ⟨[], _, rfl, rfl, st3⟩
    · rintro l σ S4 ⟨pre, x3, e, rfl, st⟩
      exact st.to.glf (t := { t with stamp := some (s.time + 1), left := srt t.keys }) e3
    · rintro σ S4 ⟨pre, x3, e, rfl, st⟩
      rw [List.append_nil] at e
      rw [← e] at st
      exact w _ _ st
    · rintro b rest hb _ kk σ S4 hk ⟨pre, x3, e, rfl, st⟩
      have gk := st.to.gk
      have gh := st.to.rd.ghd
      have hr : inR s b := by
        have h1 := (srt_perm t.keys).mem_iff.mp hb
        obtain ⟨p, hp, rfl⟩ := List.mem_map.mp h1
        exact (wf.att a t ha).pt p hp
      have hlen : b < ((pre.foldl (fun h b => h.set b.toNat (some a)) s.holders).length : Int) := by rw [holds_len, wf.hl]; exact hr.2
      walk_at "run"
      refine setI_opt (v := some a) hr.1 hlen ?_
      refine ⟨_, rfl, ?_⟩
      refine hk _ _ ⟨pre ++ [b], _, by rw [e]; simp, rfl, ?_⟩
      rw [← holds_holds]
      exact st.trans (st.to.uhd _)
end
end LU

/-! K5: the keeper's writing. -/
namespace LU
open PySem L2 PySem.Spec PyProof.Rows DL LW
local macro_rules | `(tactic| walk_at "s1") => `(tactic| first | with_reducible refine one1_i ?_ | with_reducible refine storD ?_ | with_reducible refine storV ?_ | with_reducible refine storVd ?_ | refine ⟨_, rfl, ?_⟩ | refine ⟨_, _, rfl, by assumption, ?_⟩ | refine ⟨_, _, _, rfl, by assumption, rfl, ?_⟩ | refine ⟨_, by assumption, ?_⟩ | refine ⟨rfl, ?_⟩ | refine ⟨Nat.le_of_ble_eq_true rfl, ?_⟩)
local macro_rules | `(tactic| walk_at "go") => `(tactic| (walk_at "s1"; repeat ((fail_if_success with_reducible refine isS ?_); walk_at "s1")))
local macro_rules | `(tactic| walk_at "run") => `(tactic| repeat walk_at "s1")
/-- a box of an attempt that has taken is written -/
def Ks.wrote (s : Ks) (a : Int) (t : Att) (b : Int) (r : List Int) : Ks := { s with boxes := s.boxes.set b.toNat ((pget t.puts b).getD 0), marks := s.marks.set b.toNat (t.stamp.getD 0) }.setA a { t with left := r }
def Ks.write (s : Ks) (a : Int) (t : Att) : Ks × D :=
  match t.left with
  | [] => (s, .non)
  | b :: r => if r = [] then (((s.wrote a t b r).holds t.keys none).ends a { t with left := r } sDone, .str sDone) else (s.wrote a t b r, .str sWritten)
section
variable {T : Tbl} (kt : KpT T) (n : Nat) {N : Nat} {S : Hs} {L : Role → Addr} {s : Ks} {a b v : Int} {t : Att} {Q : VK2}
theorem Kwf.wrote (wf : Kwf N s) (ha : pget s.atts a = some t) {r : List Int} (hr : ∀ x ∈ r, x ∈ t.left) : Kwf N (s.wrote a t b r) := by
  have w0 := wf.att a t ha
  have bl : (s.wrote a t b r).boxes.length = s.boxes.length := List.length_set
  have ir : ∀ {x}, inR s x → inR (s.wrote a t b r) x := fun h => ⟨h.1, by show _ < (((s.wrote a t b r).boxes.length : Nat) : Int); rw [bl]; exact h.2⟩
  have key : ∀ u, AttWf N s u → AttWf N (s.wrote a t b r) u := fun u h => ⟨fun x hx => ir (h.lk x hx), fun x hx => ir (h.pt x hx), fun x hx => ⟨ir (h.lf x hx).1, (h.lf x hx).2⟩, h.lkl, h.ptl, h.ptn⟩
  refine ⟨?_, ?_, by rw [bl]; exact wf.bl, wf.el, wf.ep, ?_, pput_keys wf.an, fun c u hu => ?_⟩
  · show (List.set _ _ _).length = (List.set _ _ _).length
    rw [List.length_set, List.length_set]; exact wf.ml
  · show s.holders.length = (List.set _ _ _).length
    rw [List.length_set]; exact wf.hl
  · show (pput s.atts a _).length ≤ N
    rw [pput_lens (by rw [ha]; rfl)]; exact wf.al
  · by_cases q : c = a
    · subst q
      have hu : pget (pput s.atts c { t with left := r }) c = some u := hu
      rw [pget_put, if_pos rfl] at hu
      cases hu
      exact key _ ⟨w0.lk, w0.pt, fun x hx => w0.lf x (hr x hx), w0.lkl, w0.ptl, w0.ptn⟩
    · have hu : pget (pput s.atts a { t with left := r }) c = some u := hu
      rw [pget_put, if_neg fun z => q z.symm] at hu
      exact key _ (wf.att c u hu)
theorem inR_holds {l : List Int} {o : Option Int} (h : inR s b) : inR (s.holds l o) b := h
theorem Kwf.holds (wf : Kwf N s) (l : List Int) (o : Option Int) : Kwf N (s.holds l o) :=
  ⟨wf.ml, (holds_len _ _ _).trans wf.hl, wf.bl, wf.el, wf.ep, wf.al, wf.an, fun c u hu => let h := wf.att c u hu; ⟨h.lk, h.pt, h.lf, h.lkl, h.ptl, h.ptn⟩⟩
include kt
theorem write_ok (h : KAt S L s) (wf : Kwf N s) (hN : N ≤ 50000) (ha : pget s.atts a = some t) (ho : t.opn = true) {z : Int} (hs : t.stamp = some z) {r : List Int} (hl : t.left = b :: r)
    (w : ∀ S', KStep S L s S' L (s.write a t).1 → Q (.d (s.write a t).2) S') : cal T (n + 2) 190 [.d (.ref (L .k)), .d (.int a)] S Q := by
  refine ⟨_, kt.f190, rfl, rfl, ?_⟩
  have w0 := wf.att a t ha
  have hb := w0.lf b (by rw [hl]; exact List.mem_cons_self)
  obtain ⟨v, hv⟩ := Option.isSome_iff_exists.mp hb.2
  have wf2 := wf.wrote (b := b) ha (r := r) (fun x hx => by rw [hl]; exact List.mem_cons_of_mem _ hx)
  have wf2 := wf2.holds t.keys none
  have c1 := fun Q => open_one_ok kt n (Q := Q) h ha ho
  have c3 := fun (S : Hs) Q h => ends_ok kt n (word := sDone) (S := S) (L := L) (Q := Q) (a := a) (t := { t with left := r }) h wf2 hN setA_get
  generalize cal T (n + 1) = c at c1 c3 ⊢
  have gk := h.gk
  have gi := h.gi ha
  have gl := h.glf ha
  have g179 := h.rd.gkc kt.c179
  have es : optD t.stamp = .int z := by rw [hs]; rfl
  unfold objI at gi
  rw [es] at gi
  rw [hl] at gl
  walk_at "go"
  refine c1 _ ?_
  walk_at "run"
  refine Br.ff ?_
  walk_at "go"
  have st1 := h.ulf ha r
  show DL.wpS T c _ _ (su S (L (.lf a)) (.lst (r.map D.int))) _ _ _ _
  generalize su S (L (.lf a)) (.lst (r.map D.int)) = S1 at st1 ⊢
  have gk1 := st1.to.gk
  have gi1 : S1 (L (.i a)) = some (.ins 9 [.int t.glance, .ref (L (.lk a)), .ref (L (.pt a)), .ref (L (.lf a)), .int z, .bl t.opn]) := by have := st1.to.gi setA_get; unfold objI at this; dsimp only at this; rw [es] at this; exact this
  have gp1 := st1.to.gpt setA_get
  have gb1 : S1 (L .bx) = some (.lst (s.boxes.map D.int)) := st1.to.at_ .bx _ rfl
  have e1 : dget (encI D.int t.puts) (.int b) = some (.int v) := by rw [dget_enc, hv]; rfl
  walk_at "run"
  refine setI_ints hb.1.1 hb.1.2 ?_
  walk_at "s1"
  have st2 := st1.to.ubx (s.boxes.set b.toNat v)
  show DL.wpS T c _ _ (su S1 (L .bx) (.lst ((s.boxes.set b.toNat v).map D.int))) _ _ _ _
  generalize su S1 (L .bx) (.lst ((s.boxes.set b.toNat v).map D.int)) = S2 at st2 ⊢
  have gk2 := st2.to.gk
  have gi2 : S2 (L (.i a)) = some (.ins 9 [.int t.glance, .ref (L (.lk a)), .ref (L (.pt a)), .ref (L (.lf a)), .int z, .bl t.opn]) := by have := st2.to.gi setA_get; unfold objI at this; dsimp only at this; rw [es] at this; exact this
  have gm2 : S2 (L .mk) = some (.lst (s.marks.map D.int)) := st2.to.at_ .mk _ rfl
  walk_at "run"
  refine setI_ints hb.1.1 (by rw [wf.ml]; exact hb.1.2) ?_
  walk_at "s1"
  have st3 := st2.to.umk (s.marks.set b.toNat z)
  show DL.wpS T c _ _ (su S2 (L .mk) (.lst ((s.marks.set b.toNat z).map D.int))) _ _ _ _
  generalize su S2 (L .mk) (.lst ((s.marks.set b.toNat z).map D.int)) = S3 at st3 ⊢
  have st3 : KStep S L s S3 L (s.wrote a t b r) := by
    have := (st1.trans st2).trans st3
    have e5 : (pget t.puts b).getD 0 = v := by rw [hv]; rfl
    have e6 : t.stamp.getD 0 = z := by rw [hs]; rfl
    unfold Ks.wrote
    rw [e5, e6]
    exact this
  have gk3 := st3.to.gk
  have gi3 : S3 (L (.i a)) = some (.ins 9 [.int t.glance, .ref (L (.lk a)), .ref (L (.pt a)), .ref (L (.lf a)), .int z, .bl t.opn]) := by have := st3.to.gi setA_get; unfold objI at this; dsimp only at this; rw [es] at this; exact this
  have gl3 := st3.to.glf setA_get
  have gp3 := st3.to.gpt setA_get
  walk_at "run"
  refine ⟨.inl rfl, ?_⟩
  unfold Ks.write at w
  rw [hl] at w
  dsimp only at w
  have er : (!eqBs (r.map D.int) []) = decide (¬ r = []) := by cases r <;> rfl
  rw [er]
  refine Br.mk (fun q => ?_) (fun q => ?_)
  · have q : ¬ r = [] := of_decide_eq_true q
    rw [if_neg q] at w
    exact w _ st3
  · have q : r = [] := Classical.byContradiction fun z => by rw [decide_eq_true z] at q; cases q
    rw [if_pos q] at w
    refine ⟨L (.pt a), _, gp3, fun ho => ?_⟩
    have ep : (su S3 (L (.pt a)) (.fdc (encI D.int t.puts) ho)) (L (.pt a)) = some (.fdc (encI D.int t.puts) ho) := su_same
    have h3 := st3.to.rd.lockP setA_get (.fdc (encI D.int t.puts) ho)
    have gi4 := h3.gi setA_get
    have hne : L .hd ≠ L (.pt a) := fun e => by
      have := st3.to.inj .hd (.pt a) rfl (Option.isSome_iff_exists.mpr ⟨_, opt (t := { t with left := r }) setA_get⟩) e
      cases this
    walk_at "go"
    refine ⟨_, _, _, rfl, ep, ?_⟩
    refine forL_map' D.int t.keys (by simp [encI, Att.keys]) (fun rest σ S4 => ∃ (pre : List Int) (x3 : Option Vx) (Sx : Hs), t.keys = pre ++ rest ∧ σ = [some (.d (.ref (L .k))), some (.d (.int a)), some (.d (.ref (L (.i a)))), x3] ∧ S4 = su Sx (L (.pt a)) (.fdc (encI D.int t.puts) ho) ∧ KStep S L s Sx L ((s.wrote a t b r).holds pre none)) ?_ ?_ ?_ _ _ ⟨[], _, _, rfl, rfl, rfl, st3⟩
    · rintro l σ S4 ⟨pre, x3, Sx, e, rfl, rfl, st⟩
      exact su_same
    · rintro σ S4 ⟨pre, x3, Sx, e, rfl, rfl, st⟩
      rw [List.append_nil] at e
      rw [← e] at st
      refine ⟨su_same, ?_⟩
      have gpx : Sx (L (.pt a)) = some (.dic (encI D.int t.puts)) := st.to.gpt (t := { t with left := r }) setA_get
      rw [su_su, su_id gpx]
      have g182 := st.to.rd.gkc kt.c182
      walk_at "run"
      refine c3 _ _ st.to fun S5 st5 => ?_
      walk_at "run"
      exact w _ (st.trans st5)
    · rintro x rest hx _ kk σ S4 hk ⟨pre, x3, Sx, e, rfl, rfl, st⟩
      have hr : inR s x := by
        obtain ⟨p, hp, rfl⟩ := List.mem_map.mp hx
        exact w0.pt p hp
      have hr2 : x < ((pre.foldl (fun h b => h.set b.toNat none) s.holders).length : Int) := by rw [holds_len, wf.hl]; exact hr.2
      have hL := st.to.rd.lockP (t := { t with left := r }) setA_get (.fdc (encI D.int t.puts) ho)
      have gk := hL.gk
      have gh := hL.ghd
      walk_at "run"
      refine setI_opt (v := none) hr.1 hr2 ?_
      refine ⟨_, rfl, ?_⟩
      refine hk _ _ ⟨pre ++ [x], _, su Sx (L .hd) (.lst ((((pre.foldl (fun h b => h.set b.toNat none) s.holders)).set x.toNat none).map optD)), by rw [e]; simp, rfl, ?_, ?_⟩
      · exact su_comm hne.symm
      · rw [← holds_holds]
        exact st.trans (st.to.uhd _)
end
end LU

/-! K6: the keeper's begin, its making. -/
namespace LU
open PySem L2 PySem.Spec PyProof.Rows DL LW
local macro_rules | `(tactic| walk_at "s1") => `(tactic| first | with_reducible refine one1_i ?_ | with_reducible refine storD ?_ | with_reducible refine storV ?_ | with_reducible refine storVd ?_ | refine ⟨_, rfl, ?_⟩ | refine ⟨_, _, rfl, by assumption, ?_⟩ | refine ⟨_, _, _, rfl, by assumption, rfl, ?_⟩ | refine ⟨_, by assumption, ?_⟩ | refine ⟨rfl, ?_⟩ | refine ⟨Nat.le_of_ble_eq_true rfl, ?_⟩)
local macro_rules | `(tactic| walk_at "go") => `(tactic| (walk_at "s1"; repeat ((fail_if_success with_reducible refine isS ?_); walk_at "s1")))
local macro_rules | `(tactic| walk_at "run") => `(tactic| repeat walk_at "s1")
theorem att_init {T : Tbl} (hT : T.fn 177 = some f_Attempt_init) (n : Nat) {S : Hs} {x : Addr} {g : Int} {Q : VK2} (hx : S x = some (.ins 9 []))
    (w : ∀ (S' : Hs) (l p f : Addr), S' x = some (.ins 9 [.int g, .ref l, .ref p, .ref f, .non, .bl true]) → S' l = some (.dic []) → S' p = some (.dic []) → S' f = some (.lst []) → S l = none → S p = none → S f = none → l ≠ p → l ≠ f → p ≠ f →
      (∀ b o, b ≠ x → S b = some o → S' b = some o) → Q (.d .non) S') : cal T (n + 1) 177 [.d (.ref x), .d (.int g)] S Q := by
  refine ⟨_, hT, rfl, rfl, ?_⟩
  generalize cal T n = c
  walk_at "go"
  show DL.wpS T c _ _ (su S x (.ins 9 [.int g])) _ _ _ _
  have k1 : (su S x (.ins 9 [.int g])) x = some (.ins 9 [.int g]) := su_same
  have f1 : ∀ b, b ≠ x → (su S x (.ins 9 [.int g])) b = S b := fun b h => su_ne h
  generalize su S x (.ins 9 [.int g]) = S1 at k1 f1 ⊢
  intro l hl
  have nl : x ≠ l := fun q => by rw [← q, k1] at hl; cases hl
  have k2 : (su S1 l (.dic [])) x = some (.ins 9 [.int g]) := by rw [su_ne nl]; exact k1
  walk_at "go"
  show DL.wpS T c _ _ (su (su S1 l (.dic [])) x (.ins 9 [.int g, .ref l])) _ _ _ _
  have k3 : (su (su S1 l (.dic [])) x (.ins 9 [.int g, .ref l])) x = some (.ins 9 [.int g, .ref l]) := su_same
  have l3 : (su (su S1 l (.dic [])) x (.ins 9 [.int g, .ref l])) l = some (.dic []) := by rw [su_ne nl.symm, su_same]
  have f3 : ∀ b, b ≠ x → b ≠ l → (su (su S1 l (.dic [])) x (.ins 9 [.int g, .ref l])) b = S b := fun b h h' => by rw [su_ne h, su_ne h', f1 b h]
  generalize su (su S1 l (.dic [])) x (.ins 9 [.int g, .ref l]) = S3 at k3 l3 f3 ⊢
  intro p hp
  have np : x ≠ p := fun q => by rw [← q, k3] at hp; cases hp
  have np2 : l ≠ p := fun q => by rw [← q, l3] at hp; cases hp
  have k4 : (su S3 p (.dic [])) x = some (.ins 9 [.int g, .ref l]) := by rw [su_ne np]; exact k3
  walk_at "go"
  show DL.wpS T c _ _ (su (su S3 p (.dic [])) x (.ins 9 [.int g, .ref l, .ref p])) _ _ _ _
  have k5 : (su (su S3 p (.dic [])) x (.ins 9 [.int g, .ref l, .ref p])) x = some (.ins 9 [.int g, .ref l, .ref p]) := su_same
  have l5 : (su (su S3 p (.dic [])) x (.ins 9 [.int g, .ref l, .ref p])) l = some (.dic []) := by rw [su_ne nl.symm, su_ne np2]; exact l3
  have p5 : (su (su S3 p (.dic [])) x (.ins 9 [.int g, .ref l, .ref p])) p = some (.dic []) := by rw [su_ne np.symm, su_same]
  have f5 : ∀ b, b ≠ x → b ≠ l → b ≠ p → (su (su S3 p (.dic [])) x (.ins 9 [.int g, .ref l, .ref p])) b = S b := fun b h h' h'' => by rw [su_ne h, su_ne h'', f3 b h h']
  generalize su (su S3 p (.dic [])) x (.ins 9 [.int g, .ref l, .ref p]) = S5 at k5 l5 p5 f5 ⊢
  walk_at "run"
  intro f hf
  have nf : x ≠ f := fun q => by rw [← q, k5] at hf; cases hf
  have nf2 : l ≠ f := fun q => by rw [← q, l5] at hf; cases hf
  have nf3 : p ≠ f := fun q => by rw [← q, p5] at hf; cases hf
  have k6 : (su S5 f (.lst [])) x = some (.ins 9 [.int g, .ref l, .ref p]) := by rw [su_ne nf]; exact k5
  walk_at "go"
  show DL.wpS T c _ _ (su (su S5 f (.lst [])) x (.ins 9 [.int g, .ref l, .ref p, .ref f])) _ _ _ _
  have k7 : (su (su S5 f (.lst [])) x (.ins 9 [.int g, .ref l, .ref p, .ref f])) x = some (.ins 9 [.int g, .ref l, .ref p, .ref f]) := su_same
  have l7 : (su (su S5 f (.lst [])) x (.ins 9 [.int g, .ref l, .ref p, .ref f])) l = some (.dic []) := by rw [su_ne nl.symm, su_ne nf2]; exact l5
  have p7 : (su (su S5 f (.lst [])) x (.ins 9 [.int g, .ref l, .ref p, .ref f])) p = some (.dic []) := by rw [su_ne np.symm, su_ne nf3]; exact p5
  have g7 : (su (su S5 f (.lst [])) x (.ins 9 [.int g, .ref l, .ref p, .ref f])) f = some (.lst []) := by rw [su_ne nf.symm, su_same]
  have f7 : ∀ b, b ≠ x → b ≠ l → b ≠ p → b ≠ f → (su (su S5 f (.lst [])) x (.ins 9 [.int g, .ref l, .ref p, .ref f])) b = S b := fun b h h' h'' h3 => by rw [su_ne h, su_ne h3, f5 b h h' h'']
  generalize su (su S5 f (.lst [])) x (.ins 9 [.int g, .ref l, .ref p, .ref f]) = S7 at k7 l7 p7 g7 f7 ⊢
  walk_at "go"
  show DL.wpS T c _ _ (su S7 x (.ins 9 [.int g, .ref l, .ref p, .ref f, .non])) _ _ _ _
  have k8 : (su S7 x (.ins 9 [.int g, .ref l, .ref p, .ref f, .non])) x = some (.ins 9 [.int g, .ref l, .ref p, .ref f, .non]) := su_same
  have f8 : ∀ b, b ≠ x → (su S7 x (.ins 9 [.int g, .ref l, .ref p, .ref f, .non])) b = S7 b := fun b h => su_ne h
  generalize su S7 x (.ins 9 [.int g, .ref l, .ref p, .ref f, .non]) = S8 at k8 f8 ⊢
  walk_at "go"
  have hl0 : S l = none := by rw [← f1 l nl.symm]; exact hl
  have hp0 : S p = none := by rw [← f3 p np.symm np2.symm]; exact hp
  have hf0 : S f = none := by rw [← f5 f nf.symm nf2.symm nf3.symm]; exact hf
  refine w (su S8 x (.ins 9 [.int g, .ref l, .ref p, .ref f, .non, .bl true])) l p f su_same ?_ ?_ ?_ hl0 hp0 hf0 np2 nf2 nf3 fun b o h e => ?_
  · rw [su_ne nl.symm, f8 l nl.symm]; exact l7
  · rw [su_ne np.symm, f8 p np.symm]; exact p7
  · rw [su_ne nf.symm, f8 f nf.symm]; exact g7
  · have n1 : b ≠ l := fun q => by rw [q, hl0] at e; cases e
    have n2 : b ≠ p := fun q => by rw [q, hp0] at e; cases e
    have n3 : b ≠ f := fun q => by rw [q, hf0] at e; cases e
    rw [su_ne h, f8 b h, f7 b h n1 n2 n3]; exact e
def Ks.begin (s : Ks) (a : Int) : Ks := { s with atts := pput s.atts a ⟨s.time, [], [], [], none, true⟩ }.evt (e2 sBegin a)
def newL (L : Role → Addr) (a : Int) (x l p f : Addr) : Role → Addr := mv (mv (mv (mv L (.i a) x) (.lk a) l) (.pt a) p) (.lf a) f
section
variable {L : Role → Addr} {a : Int} {x l p f : Addr}
theorem newL_i : newL L a x l p f (.i a) = x := by unfold newL; rw [mv_ne (fun q => by cases q), mv_ne (fun q => by cases q), mv_ne (fun q => by cases q), mv_same]
theorem newL_lk : newL L a x l p f (.lk a) = l := by unfold newL; rw [mv_ne (fun q => by cases q), mv_ne (fun q => by cases q), mv_same]
theorem newL_pt : newL L a x l p f (.pt a) = p := by unfold newL; rw [mv_ne (fun q => by cases q), mv_same]
theorem newL_lf : newL L a x l p f (.lf a) = f := mv_same
theorem newL_ne {r : Role} (h : r ≠ .i a ∧ r ≠ .lk a ∧ r ≠ .pt a ∧ r ≠ .lf a) : newL L a x l p f r = L r := by unfold newL; rw [mv_ne h.2.2.2, mv_ne h.2.2.1, mv_ne h.2.1, mv_ne h.1]
end
def isNew (a : Int) (r : Role) : Bool := decide (r = .i a ∨ r = .lk a ∨ r = .pt a ∨ r = .lf a)
theorem isNew_f {a : Int} {r : Role} (h : isNew a r = false) : r ≠ .i a ∧ r ≠ .lk a ∧ r ≠ .pt a ∧ r ≠ .lf a := by
  have := of_decide_eq_false h
  exact ⟨fun q => this (.inl q), fun q => this (.inr (.inl q)), fun q => this (.inr (.inr (.inl q))), fun q => this (.inr (.inr (.inr q)))⟩
theorem isNew_t {a : Int} {r : Role} (h : isNew a r = true) : r = .i a ∨ r = .lk a ∨ r = .pt a ∨ r = .lf a := of_decide_eq_true h
section
variable {S S1 : Hs} {L : Role → Addr} {s : Ks} {a : Int} {x l p f : Addr}
theorem KAt.begun (h : KAt S L s) (ha : pget s.atts a = none) {t0 : Att} (ht : t0.looked = [] ∧ t0.puts = [] ∧ t0.left = []) (hx : S1 x = some (.ins 9 [.int t0.glance, .ref l, .ref p, .ref f, optD t0.stamp, .bl t0.opn])) (hl : S1 l = some (.dic [])) (hp : S1 p = some (.dic [])) (hf : S1 f = some (.lst []))
    (nx : S x = none) (nl : S l = none) (np : S p = none) (nf : S f = none) (xl : x ≠ l) (xp : x ≠ p) (xf : x ≠ f) (lp : l ≠ p) (lf : l ≠ f) (pf : p ≠ f) (fr : ∀ b o, S b = some o → S1 b = some o) :
    KStep S L s (su S1 (L .ats) (.dic ((s.atts.map fun e => (D.int e.1, D.ref (L (.i e.1)))) ++ [(.int a, .ref x)]))) (newL L a x l p f) { s with atts := pput s.atts a t0 } := by
  have hput : pput s.atts a t0 = s.atts ++ [(a, t0)] := pput_new ha
  have eA : newL L a x l p f .ats = L .ats := newL_ne ⟨nofun, nofun, nofun, nofun⟩
  let s' : Ks := { s with atts := pput s.atts a t0 }
  have ga : pget s'.atts a = some t0 := by show pget (pput s.atts a t0) a = _; rw [pget_put, if_pos rfl]
  have gb : ∀ b, b ≠ a → pget s'.atts b = pget s.atts b := fun b q => by show pget (pput s.atts a t0) b = _; rw [pget_put, if_neg fun z => q z.symm]
  have oI : objK (newL L a x l p f) s' (.i a) = some (.ins 9 [.int t0.glance, .ref l, .ref p, .ref f, optD t0.stamp, .bl t0.opn]) := by
    rw [oi ga]; unfold objI; rw [newL_lk, newL_pt, newL_lf]
  have oL : objK (newL L a x l p f) s' (.lk a) = some (.dic []) := by rw [olk ga, ht.1]; rfl
  have oP : objK (newL L a x l p f) s' (.pt a) = some (.dic []) := by rw [opt ga, ht.2.1]; rfl
  have oF : objK (newL L a x l p f) s' (.lf a) = some (.lst []) := by rw [olf ga, ht.2.2]; rfl
  have st1 : Step S L (objK L s) S1 (newL L a x l p f) (fun r => if isNew a r = true then objK (newL L a x l p f) s' r else objK L s r) := by
    refine At.ext h (fun r => isNew a r = true) (fun r z => ?_) fr (fun r o z e => ?_) (fun r q z1 z2 _ _ e => ?_)
    · have z : isNew a r = false := by simpa using z
      refine ⟨newL_ne (isNew_f z), ?_⟩
      rw [z]; rfl
    · rw [if_pos z] at e
      rcases isNew_t z with rfl | rfl | rfl | rfl
      · rw [oI] at e; cases e; rw [newL_i]; exact ⟨hx, nx⟩
      · rw [oL] at e; cases e; rw [newL_lk]; exact ⟨hl, nl⟩
      · rw [oP] at e; cases e; rw [newL_pt]; exact ⟨hp, np⟩
      · rw [oF] at e; cases e; rw [newL_lf]; exact ⟨hf, nf⟩
    · rcases isNew_t z1 with rfl | rfl | rfl | rfl <;> rcases isNew_t z2 with rfl | rfl | rfl | rfl <;> first | rfl | (simp only [newL_i, newL_lk, newL_pt, newL_lf] at e; first | exact (xl e).elim | exact (xl e.symm).elim | exact (xp e).elim | exact (xp e.symm).elim | exact (xf e).elim | exact (xf e.symm).elim | exact (lp e).elim | exact (lp e.symm).elim | exact (lf e).elim | exact (lf e.symm).elim | exact (pf e).elim | exact (pf e.symm).elim)
  have old : ∀ r, isNew a r = false → r ≠ .ats → objK (newL L a x l p f) s' r = objK L s r := fun r z q => by
    have z := isNew_f z
    cases r with
    | i b =>
      have hb : b ≠ a := fun q => z.1 (by rw [q])
      show (pget s'.atts b).map _ = (pget s.atts b).map _
      rw [gb b hb]
      cases pget s.atts b with
      | none => rfl
      | some u =>
        show some (objI _ b u) = some (objI _ b u)
        unfold objI
        rw [newL_ne (r := .lk b) ⟨nofun, fun q => hb (by cases q; rfl), nofun, nofun⟩, newL_ne (r := .pt b) ⟨nofun, nofun, fun q => hb (by cases q; rfl), nofun⟩, newL_ne (r := .lf b) ⟨nofun, nofun, nofun, fun q => hb (by cases q; rfl)⟩]
    | lk b =>
      have hb : b ≠ a := fun q => z.2.1 (by rw [q])
      show (pget s'.atts b).map _ = (pget s.atts b).map _
      rw [gb b hb]
    | pt b =>
      have hb : b ≠ a := fun q => z.2.2.1 (by rw [q])
      show (pget s'.atts b).map _ = (pget s.atts b).map _
      rw [gb b hb]
    | lf b =>
      have hb : b ≠ a := fun q => z.2.2.2 (by rw [q])
      show (pget s'.atts b).map _ = (pget s.atts b).map _
      rw [gb b hb]
    | ats => exact (q rfl).elim
    | k =>
      show some _ = some _
      rw [newL_ne (r := .bx) ⟨nofun, nofun, nofun, nofun⟩, newL_ne (r := .mk) ⟨nofun, nofun, nofun, nofun⟩, newL_ne (r := .hd) ⟨nofun, nofun, nofun, nofun⟩, newL_ne (r := .ats) ⟨nofun, nofun, nofun, nofun⟩, newL_ne (r := .ev) ⟨nofun, nofun, nofun, nofun⟩]
    | _ => rfl
  have st2 := At.upd (ob' := objK (newL L a x l p f) s') st1.to .ats (o := .dic ((s.atts.map fun e => (D.int e.1, D.ref (L (.i e.1)))) ++ [(.int a, .ref x)])) rfl (fun r z => ?_) ?_
  · rw [eA] at st2
    exact ⟨st1.trans st2, newL_ne ⟨nofun, nofun, nofun, nofun⟩⟩
  · by_cases q : isNew a r = true
    · rw [if_pos q]
    · rw [if_neg q]
      exact old r (by simpa using q) z
  · show some (O.dic ((pput s.atts a t0).map fun (e : Int × Att) => (D.int e.1, D.ref (newL L a x l p f (.i e.1))))) = _
    rw [hput, List.map_append]
    congr 2
    · congr 1
      · refine List.map_congr_left fun e he => ?_
        have hb : e.1 ≠ a := pget_none.mp ha e he
        rw [newL_ne (r := .i e.1) ⟨fun q => hb (by injection q), nofun, nofun, nofun⟩]
      · show [(D.int a, D.ref (newL L a x l p f (.i a)))] = _
        rw [newL_i]
end
section
variable {T : Tbl} (kt : KpT T) (n : Nat) {N : Nat} {S : Hs} {L : Role → Addr} {s : Ks} {a : Int} {Q : VK2}
include kt
theorem begin_ok (h : KAt S L s) (wf : Kwf N s) (hN : N ≤ 50000) (ha : pget s.atts a = none) (w : ∀ S' L', KStep S L s S' L' (s.begin a) → Q (.d .non) S') : cal T (n + 2) 181 [.d (.ref (L .k)), .d (.int a)] S Q := by
  refine ⟨_, kt.f181, rfl, rfl, ?_⟩
  have c1 := fun (S : Hs) (x : Addr) (g : Int) Q h => att_init kt.f177 n (S := S) (x := x) (g := g) (Q := Q) h
  generalize cal T (n + 1) = c at c1 ⊢
  have gk := h.gk
  have gat := h.rd.gats
  walk_at "run"
  rw [dhas_ats, ha]
  refine Br.ff ?_
  walk_at "run"
  intro x hx
  have e9 : T.cini 9 = 177 := kt.i9
  show c (T.cini 9) _ _ _
  rw [e9]
  refine c1 _ _ _ _ su_same fun S1 l p f kx kl kp kf nl np nf lp lf pf fr => ⟨rfl, ?_⟩
  have xl : x ≠ l := fun q => by rw [← q, su_same] at nl; cases nl
  have xp : x ≠ p := fun q => by rw [← q, su_same] at np; cases np
  have xf : x ≠ f := fun q => by rw [← q, su_same] at nf; cases nf
  rw [su_ne xl.symm] at nl
  rw [su_ne xp.symm] at np
  rw [su_ne xf.symm] at nf
  have fr2 : ∀ b o, S b = some o → S1 b = some o := fun b o e => by
    have hb : b ≠ x := fun q => by rw [q, hx] at e; cases e
    exact fr b o hb (by rw [su_ne hb]; exact e)
  have gk1 := fr2 _ _ gk
  have ga1 := fr2 _ _ gat
  walk_at "run"
  refine ⟨?_, ?_⟩
  · rw [List.length_map]
    exact Nat.lt_of_le_of_lt (Nat.le_trans wf.al hN) (by decide)
  walk_at "s1"
  have ed : dput (s.atts.map fun (e : Int × Att) => (D.int e.1, D.ref (L (.i e.1)))) (.int a) (.ref x) = (s.atts.map fun (e : Int × Att) => (D.int e.1, D.ref (L (.i e.1)))) ++ [(.int a, .ref x)] := by
    unfold dput
    rw [dhas_ats, ha]; rfl
  rw [ed]
  have st := h.begun ha (t0 := ⟨s.time, [], [], [], none, true⟩) ⟨rfl, rfl, rfl⟩ kx kl kp kf hx nl np nf xl xp xf lp lf pf fr2
  generalize su S1 (L .ats) (.dic ((s.atts.map fun e => (D.int e.1, D.ref (L (.i e.1)))) ++ [(.int a, .ref x)])) = S2 at st ⊢
  generalize newL L a x l p f = L2 at st
  have gk2 := st.to.gk
  rw [st.k] at gk2
  have ge := st.to.at_ .ev _ rfl
  have el : s.events.length < sizeLine := Nat.lt_of_le_of_lt (Nat.le_trans wf.el hN) (by decide)
  walk_at "run"
  refine ⟨el, ?_⟩
  walk_at "run"
  exact w _ _ (st.trans (st.to.uev _))
end
end LU

/-! K7: the keeper's making, its order. -/
namespace LU
open PySem L2 PySem.Spec PyProof.Rows DL LW
local macro_rules | `(tactic| walk_at "s1") => `(tactic| first | with_reducible refine one1_i ?_ | with_reducible refine storD ?_ | with_reducible refine storV ?_ | with_reducible refine storVd ?_ | refine ⟨_, rfl, ?_⟩ | refine ⟨_, _, rfl, by assumption, ?_⟩ | refine ⟨_, _, _, rfl, by assumption, rfl, ?_⟩ | refine ⟨_, by assumption, ?_⟩ | refine ⟨rfl, ?_⟩ | refine ⟨Nat.le_of_ble_eq_true rfl, ?_⟩)
local macro_rules | `(tactic| walk_at "go") => `(tactic| (walk_at "s1"; repeat ((fail_if_success with_reducible refine isS ?_); walk_at "s1")))
local macro_rules | `(tactic| walk_at "run") => `(tactic| repeat walk_at "s1")
theorem repD_ints {k : Nat} (x : Int) : repD [D.int x] k = (List.replicate k x).map D.int := by
  unfold repD
  induction k with
  | zero => rfl
  | succ k ih => rw [List.replicate_succ, List.flatten_cons, ih, List.replicate_succ, List.map_cons]; rfl
theorem repD_nones {k : Nat} : repD [D.non] k = (List.replicate k (none : Option Int)).map optD := by
  unfold repD
  induction k with
  | zero => rfl
  | succ k ih => rw [List.replicate_succ, List.flatten_cons, ih, List.replicate_succ, List.map_cons]; rfl
theorem keeper_init {T : Tbl} (hT : T.fn 178 = some f_Keeper_init) (n : Nat) {S : Hs} {x : Addr} {wd : D} {st : List Int} {Q : VK2} (hx : S x = some (.ins 10 [])) (hs : st.length ≤ 60)
    (w : ∀ (S' : Hs) (l1 l2 l3 l5 l6 : Addr), S' x = some (.ins 10 [wd, .ref l1, .ref l2, .ref l3, .int 0, .ref l5, .ref l6]) → S' l1 = some (.lst (st.map D.int)) → S' l2 = some (.lst ((List.replicate st.length (0 : Int)).map D.int)) → S' l3 = some (.lst ((List.replicate st.length (none : Option Int)).map optD)) → S' l5 = some (.dic []) → S' l6 = some (.lst []) → S l1 = none → S l2 = none → S l3 = none → S l5 = none → S l6 = none → l1 ≠ l2 → l1 ≠ l3 → l1 ≠ l5 → l1 ≠ l6 → l2 ≠ l3 → l2 ≠ l5 → l2 ≠ l6 → l3 ≠ l5 → l3 ≠ l6 → l5 ≠ l6 → (∀ b o, b ≠ x → S b = some o → S' b = some o) → Q (.d .non) S') : cal T (n + 1) 178 [.d (.ref x), .d wd, .d (.tup (st.map D.int))] S Q := by
  refine ⟨_, hT, rfl, rfl, ?_⟩
  generalize cal T n = c
  walk_at "go"
  show DL.wpS T c _ _ (su S x (.ins 10 [wd])) _ _ _ _
  have k0 : (su S x (.ins 10 [wd])) x = some (.ins 10 [wd]) := su_same
  have f0 : ∀ b, b ≠ x → (su S x (.ins 10 [wd])) b = S b := fun b z => by rw [su_ne z]
  generalize (su S x (.ins 10 [wd])) = S1 at k0 f0 ⊢
  walk_at "run"
  intro l1 h1
  have nx1 : x ≠ l1 := fun q => by rw [← q, k0] at h1; cases h1
  have j1 : (su S1 l1 (.lst (st.map D.int))) x = some (.ins 10 [wd]) := by rw [su_ne nx1]; exact k0
  walk_at "go"
  show DL.wpS T c _ _ (su (su S1 l1 (.lst (st.map D.int))) x (.ins 10 [wd, .ref l1])) _ _ _ _
  have k1 : (su (su S1 l1 (.lst (st.map D.int))) x (.ins 10 [wd, .ref l1])) x = some (.ins 10 [wd, .ref l1]) := su_same
  have g1_1 : (su (su S1 l1 (.lst (st.map D.int))) x (.ins 10 [wd, .ref l1])) l1 = some (.lst (st.map D.int)) := by rw [su_ne nx1.symm, su_same]
  have f1 : ∀ b, b ≠ x → b ≠ l1 → (su (su S1 l1 (.lst (st.map D.int))) x (.ins 10 [wd, .ref l1])) b = S b := fun b z z1 => by rw [su_ne z, su_ne z1]; exact f0 b z
  have e1 : S l1 = none := by rw [← f0 l1 nx1.symm]; exact h1
  generalize (su (su S1 l1 (.lst (st.map D.int))) x (.ins 10 [wd, .ref l1])) = S2 at k1 g1_1 f1 ⊢
  walk_at "run"
  refine ⟨by rw [List.length_map]; omega, by rw [List.length_map]; omega, by rw [List.length_map]; exact Nat.le_trans (show 1 * ((st.length : Nat) : Int).toNat ≤ 60 by omega) (by decide), ?_⟩
  rw [List.length_map, show ((st.length : Nat) : Int).toNat = st.length by omega, repD_ints]
  intro l2 h2
  have nx2 : x ≠ l2 := fun q => by rw [← q, k1] at h2; cases h2
  have n1_2 : l1 ≠ l2 := fun q => by rw [← q, g1_1] at h2; cases h2
  have j2 : (su S2 l2 (.lst ((List.replicate st.length (0 : Int)).map D.int))) x = some (.ins 10 [wd, .ref l1]) := by rw [su_ne nx2]; exact k1
  walk_at "go"
  show DL.wpS T c _ _ (su (su S2 l2 (.lst ((List.replicate st.length (0 : Int)).map D.int))) x (.ins 10 [wd, .ref l1, .ref l2])) _ _ _ _
  have k2 : (su (su S2 l2 (.lst ((List.replicate st.length (0 : Int)).map D.int))) x (.ins 10 [wd, .ref l1, .ref l2])) x = some (.ins 10 [wd, .ref l1, .ref l2]) := su_same
  have g2_1 : (su (su S2 l2 (.lst ((List.replicate st.length (0 : Int)).map D.int))) x (.ins 10 [wd, .ref l1, .ref l2])) l1 = some (.lst (st.map D.int)) := by rw [su_ne nx1.symm, su_ne n1_2]; exact g1_1
  have g2_2 : (su (su S2 l2 (.lst ((List.replicate st.length (0 : Int)).map D.int))) x (.ins 10 [wd, .ref l1, .ref l2])) l2 = some (.lst ((List.replicate st.length (0 : Int)).map D.int)) := by rw [su_ne nx2.symm, su_same]
  have f2 : ∀ b, b ≠ x → b ≠ l1 → b ≠ l2 → (su (su S2 l2 (.lst ((List.replicate st.length (0 : Int)).map D.int))) x (.ins 10 [wd, .ref l1, .ref l2])) b = S b := fun b z z1 z2 => by rw [su_ne z, su_ne z2]; exact f1 b z z1
  have e2 : S l2 = none := by rw [← f1 l2 nx2.symm n1_2.symm]; exact h2
  generalize (su (su S2 l2 (.lst ((List.replicate st.length (0 : Int)).map D.int))) x (.ins 10 [wd, .ref l1, .ref l2])) = S3 at k2 g2_1 g2_2 f2 ⊢
  walk_at "run"
  refine ⟨by rw [List.length_map]; omega, by rw [List.length_map]; omega, by rw [List.length_map]; exact Nat.le_trans (show 1 * ((st.length : Nat) : Int).toNat ≤ 60 by omega) (by decide), ?_⟩
  rw [List.length_map, show ((st.length : Nat) : Int).toNat = st.length by omega, repD_nones]
  intro l3 h3
  have nx3 : x ≠ l3 := fun q => by rw [← q, k2] at h3; cases h3
  have n1_3 : l1 ≠ l3 := fun q => by rw [← q, g2_1] at h3; cases h3
  have n2_3 : l2 ≠ l3 := fun q => by rw [← q, g2_2] at h3; cases h3
  have j3 : (su S3 l3 (.lst ((List.replicate st.length (none : Option Int)).map optD))) x = some (.ins 10 [wd, .ref l1, .ref l2]) := by rw [su_ne nx3]; exact k2
  walk_at "go"
  show DL.wpS T c _ _ (su (su S3 l3 (.lst ((List.replicate st.length (none : Option Int)).map optD))) x (.ins 10 [wd, .ref l1, .ref l2, .ref l3])) _ _ _ _
  have k3 : (su (su S3 l3 (.lst ((List.replicate st.length (none : Option Int)).map optD))) x (.ins 10 [wd, .ref l1, .ref l2, .ref l3])) x = some (.ins 10 [wd, .ref l1, .ref l2, .ref l3]) := su_same
  have g3_1 : (su (su S3 l3 (.lst ((List.replicate st.length (none : Option Int)).map optD))) x (.ins 10 [wd, .ref l1, .ref l2, .ref l3])) l1 = some (.lst (st.map D.int)) := by rw [su_ne nx1.symm, su_ne n1_3]; exact g2_1
  have g3_2 : (su (su S3 l3 (.lst ((List.replicate st.length (none : Option Int)).map optD))) x (.ins 10 [wd, .ref l1, .ref l2, .ref l3])) l2 = some (.lst ((List.replicate st.length (0 : Int)).map D.int)) := by rw [su_ne nx2.symm, su_ne n2_3]; exact g2_2
  have g3_3 : (su (su S3 l3 (.lst ((List.replicate st.length (none : Option Int)).map optD))) x (.ins 10 [wd, .ref l1, .ref l2, .ref l3])) l3 = some (.lst ((List.replicate st.length (none : Option Int)).map optD)) := by rw [su_ne nx3.symm, su_same]
  have f3 : ∀ b, b ≠ x → b ≠ l1 → b ≠ l2 → b ≠ l3 → (su (su S3 l3 (.lst ((List.replicate st.length (none : Option Int)).map optD))) x (.ins 10 [wd, .ref l1, .ref l2, .ref l3])) b = S b := fun b z z1 z2 z3 => by rw [su_ne z, su_ne z3]; exact f2 b z z1 z2
  have e3 : S l3 = none := by rw [← f2 l3 nx3.symm n1_3.symm n2_3.symm]; exact h3
  generalize (su (su S3 l3 (.lst ((List.replicate st.length (none : Option Int)).map optD))) x (.ins 10 [wd, .ref l1, .ref l2, .ref l3])) = S4 at k3 g3_1 g3_2 g3_3 f3 ⊢
  walk_at "go"
  show DL.wpS T c _ _ (su S4 x (.ins 10 [wd, .ref l1, .ref l2, .ref l3, .int 0])) _ _ _ _
  have k4 : (su S4 x (.ins 10 [wd, .ref l1, .ref l2, .ref l3, .int 0])) x = some (.ins 10 [wd, .ref l1, .ref l2, .ref l3, .int 0]) := su_same
  have g4_1 : (su S4 x (.ins 10 [wd, .ref l1, .ref l2, .ref l3, .int 0])) l1 = some (.lst (st.map D.int)) := by rw [su_ne nx1.symm]; exact g3_1
  have g4_2 : (su S4 x (.ins 10 [wd, .ref l1, .ref l2, .ref l3, .int 0])) l2 = some (.lst ((List.replicate st.length (0 : Int)).map D.int)) := by rw [su_ne nx2.symm]; exact g3_2
  have g4_3 : (su S4 x (.ins 10 [wd, .ref l1, .ref l2, .ref l3, .int 0])) l3 = some (.lst ((List.replicate st.length (none : Option Int)).map optD)) := by rw [su_ne nx3.symm]; exact g3_3
  have f4 : ∀ b, b ≠ x → b ≠ l1 → b ≠ l2 → b ≠ l3 → (su S4 x (.ins 10 [wd, .ref l1, .ref l2, .ref l3, .int 0])) b = S b := fun b z z1 z2 z3 => by rw [su_ne z]; exact f3 b z z1 z2 z3
  generalize (su S4 x (.ins 10 [wd, .ref l1, .ref l2, .ref l3, .int 0])) = S5 at k4 g4_1 g4_2 g4_3 f4 ⊢
  walk_at "run"
  intro l5 h5
  have nx5 : x ≠ l5 := fun q => by rw [← q, k4] at h5; cases h5
  have n1_5 : l1 ≠ l5 := fun q => by rw [← q, g4_1] at h5; cases h5
  have n2_5 : l2 ≠ l5 := fun q => by rw [← q, g4_2] at h5; cases h5
  have n3_5 : l3 ≠ l5 := fun q => by rw [← q, g4_3] at h5; cases h5
  have j5 : (su S5 l5 (.dic [])) x = some (.ins 10 [wd, .ref l1, .ref l2, .ref l3, .int 0]) := by rw [su_ne nx5]; exact k4
  walk_at "go"
  show DL.wpS T c _ _ (su (su S5 l5 (.dic [])) x (.ins 10 [wd, .ref l1, .ref l2, .ref l3, .int 0, .ref l5])) _ _ _ _
  have k5 : (su (su S5 l5 (.dic [])) x (.ins 10 [wd, .ref l1, .ref l2, .ref l3, .int 0, .ref l5])) x = some (.ins 10 [wd, .ref l1, .ref l2, .ref l3, .int 0, .ref l5]) := su_same
  have g5_1 : (su (su S5 l5 (.dic [])) x (.ins 10 [wd, .ref l1, .ref l2, .ref l3, .int 0, .ref l5])) l1 = some (.lst (st.map D.int)) := by rw [su_ne nx1.symm, su_ne n1_5]; exact g4_1
  have g5_2 : (su (su S5 l5 (.dic [])) x (.ins 10 [wd, .ref l1, .ref l2, .ref l3, .int 0, .ref l5])) l2 = some (.lst ((List.replicate st.length (0 : Int)).map D.int)) := by rw [su_ne nx2.symm, su_ne n2_5]; exact g4_2
  have g5_3 : (su (su S5 l5 (.dic [])) x (.ins 10 [wd, .ref l1, .ref l2, .ref l3, .int 0, .ref l5])) l3 = some (.lst ((List.replicate st.length (none : Option Int)).map optD)) := by rw [su_ne nx3.symm, su_ne n3_5]; exact g4_3
  have g5_5 : (su (su S5 l5 (.dic [])) x (.ins 10 [wd, .ref l1, .ref l2, .ref l3, .int 0, .ref l5])) l5 = some (.dic []) := by rw [su_ne nx5.symm, su_same]
  have f5 : ∀ b, b ≠ x → b ≠ l1 → b ≠ l2 → b ≠ l3 → b ≠ l5 → (su (su S5 l5 (.dic [])) x (.ins 10 [wd, .ref l1, .ref l2, .ref l3, .int 0, .ref l5])) b = S b := fun b z z1 z2 z3 z5 => by rw [su_ne z, su_ne z5]; exact f4 b z z1 z2 z3
  have e5 : S l5 = none := by rw [← f4 l5 nx5.symm n1_5.symm n2_5.symm n3_5.symm]; exact h5
  generalize (su (su S5 l5 (.dic [])) x (.ins 10 [wd, .ref l1, .ref l2, .ref l3, .int 0, .ref l5])) = S6 at k5 g5_1 g5_2 g5_3 g5_5 f5 ⊢
  walk_at "run"
  intro l6 h6
  have nx6 : x ≠ l6 := fun q => by rw [← q, k5] at h6; cases h6
  have n1_6 : l1 ≠ l6 := fun q => by rw [← q, g5_1] at h6; cases h6
  have n2_6 : l2 ≠ l6 := fun q => by rw [← q, g5_2] at h6; cases h6
  have n3_6 : l3 ≠ l6 := fun q => by rw [← q, g5_3] at h6; cases h6
  have n5_6 : l5 ≠ l6 := fun q => by rw [← q, g5_5] at h6; cases h6
  have j6 : (su S6 l6 (.lst [])) x = some (.ins 10 [wd, .ref l1, .ref l2, .ref l3, .int 0, .ref l5]) := by rw [su_ne nx6]; exact k5
  walk_at "go"
  show Q (.d .non) (su (su S6 l6 (.lst [])) x (.ins 10 [wd, .ref l1, .ref l2, .ref l3, .int 0, .ref l5, .ref l6]))
  have k6 : (su (su S6 l6 (.lst [])) x (.ins 10 [wd, .ref l1, .ref l2, .ref l3, .int 0, .ref l5, .ref l6])) x = some (.ins 10 [wd, .ref l1, .ref l2, .ref l3, .int 0, .ref l5, .ref l6]) := su_same
  have g6_1 : (su (su S6 l6 (.lst [])) x (.ins 10 [wd, .ref l1, .ref l2, .ref l3, .int 0, .ref l5, .ref l6])) l1 = some (.lst (st.map D.int)) := by rw [su_ne nx1.symm, su_ne n1_6]; exact g5_1
  have g6_2 : (su (su S6 l6 (.lst [])) x (.ins 10 [wd, .ref l1, .ref l2, .ref l3, .int 0, .ref l5, .ref l6])) l2 = some (.lst ((List.replicate st.length (0 : Int)).map D.int)) := by rw [su_ne nx2.symm, su_ne n2_6]; exact g5_2
  have g6_3 : (su (su S6 l6 (.lst [])) x (.ins 10 [wd, .ref l1, .ref l2, .ref l3, .int 0, .ref l5, .ref l6])) l3 = some (.lst ((List.replicate st.length (none : Option Int)).map optD)) := by rw [su_ne nx3.symm, su_ne n3_6]; exact g5_3
  have g6_5 : (su (su S6 l6 (.lst [])) x (.ins 10 [wd, .ref l1, .ref l2, .ref l3, .int 0, .ref l5, .ref l6])) l5 = some (.dic []) := by rw [su_ne nx5.symm, su_ne n5_6]; exact g5_5
  have g6_6 : (su (su S6 l6 (.lst [])) x (.ins 10 [wd, .ref l1, .ref l2, .ref l3, .int 0, .ref l5, .ref l6])) l6 = some (.lst []) := by rw [su_ne nx6.symm, su_same]
  have f6 : ∀ b, b ≠ x → b ≠ l1 → b ≠ l2 → b ≠ l3 → b ≠ l5 → b ≠ l6 → (su (su S6 l6 (.lst [])) x (.ins 10 [wd, .ref l1, .ref l2, .ref l3, .int 0, .ref l5, .ref l6])) b = S b := fun b z z1 z2 z3 z5 z6 => by rw [su_ne z, su_ne z6]; exact f5 b z z1 z2 z3 z5
  have e6 : S l6 = none := by rw [← f5 l6 nx6.symm n1_6.symm n2_6.symm n3_6.symm n5_6.symm]; exact h6
  generalize (su (su S6 l6 (.lst [])) x (.ins 10 [wd, .ref l1, .ref l2, .ref l3, .int 0, .ref l5, .ref l6])) = S7 at k6 g6_1 g6_2 g6_3 g6_5 g6_6 f6 ⊢
  refine w _ l1 l2 l3 l5 l6 k6 g6_1 g6_2 g6_3 g6_5 g6_6 e1 e2 e3 e5 e6 n1_2 n1_3 n1_5 n1_6 n2_3 n2_5 n2_6 n3_5 n3_6 n5_6  fun b o z e => ?_
  have y1 : b ≠ l1 := fun q => by rw [q, e1] at e; cases e
  have y2 : b ≠ l2 := fun q => by rw [q, e2] at e; cases e
  have y3 : b ≠ l3 := fun q => by rw [q, e3] at e; cases e
  have y5 : b ≠ l5 := fun q => by rw [q, e5] at e; cases e
  have y6 : b ≠ l6 := fun q => by rw [q, e6] at e; cases e
  rw [f6 b z y1 y2 y3 y5 y6]; exact e
end LU

/-! K8: the keeper's making as a region; its order. -/
namespace LU
open PySem L2 PySem.Spec PyProof.Rows DL LW
local macro_rules | `(tactic| walk_at "s1") => `(tactic| first | with_reducible refine one1_i ?_ | with_reducible refine storD ?_ | with_reducible refine storV ?_ | with_reducible refine storVd ?_ | refine ⟨_, rfl, ?_⟩ | refine ⟨_, _, rfl, by assumption, ?_⟩ | refine ⟨_, _, _, rfl, by assumption, rfl, ?_⟩ | refine ⟨_, by assumption, ?_⟩ | refine ⟨rfl, ?_⟩ | refine ⟨Nat.le_of_ble_eq_true rfl, ?_⟩)
local macro_rules | `(tactic| walk_at "go") => `(tactic| (walk_at "s1"; repeat ((fail_if_success with_reducible refine isS ?_); walk_at "s1")))
local macro_rules | `(tactic| walk_at "run") => `(tactic| repeat walk_at "s1")
def Ks.new (wd : D) (st : List Int) : Ks := ⟨wd, st, List.replicate st.length 0, List.replicate st.length none, 0, [], []⟩
theorem KAt.made {S S' : Hs} {x l1 l2 l3 l5 l6 : Addr} {wd : D} {st : List Int} (hx : S' x = some (.ins 10 [wd, .ref l1, .ref l2, .ref l3, .int 0, .ref l5, .ref l6])) (h1 : S' l1 = some (.lst (st.map D.int))) (h2 : S' l2 = some (.lst ((List.replicate st.length (0 : Int)).map D.int))) (h3 : S' l3 = some (.lst ((List.replicate st.length (none : Option Int)).map optD)))
    (h5 : S' l5 = some (.dic [])) (h6 : S' l6 = some (.lst [])) (nx : S x = none) (n1 : S l1 = none) (n2 : S l2 = none) (n3 : S l3 = none) (n5 : S l5 = none) (n6 : S l6 = none)
    (d12 : l1 ≠ l2) (d13 : l1 ≠ l3) (d15 : l1 ≠ l5) (d16 : l1 ≠ l6) (d23 : l2 ≠ l3) (d25 : l2 ≠ l5) (d26 : l2 ≠ l6) (d35 : l3 ≠ l5) (d36 : l3 ≠ l6) (d56 : l5 ≠ l6) (x1 : x ≠ l1) (x2 : x ≠ l2) (x3 : x ≠ l3) (x5 : x ≠ l5) (x6 : x ≠ l6) :
    ∃ L : Role → Addr, L .k = x ∧ KAt S' L (Ks.new wd st) ∧ ∀ b, foot L (objK L (Ks.new wd st)) b → S b = none := by
  refine ⟨fun r => match r with | .k => x | .bx => l1 | .mk => l2 | .hd => l3 | .ats => l5 | .ev => l6 | _ => x, rfl, ⟨fun r o e => ?_, fun r q hr hq e => ?_⟩, fun b ⟨r, hr, e⟩ => ?_⟩
  · cases r <;> first | (cases e; assumption) | cases e
  · cases r <;> cases q <;> first | rfl | (exact absurd e (by assumption)) | (exact absurd e.symm (by assumption)) | (cases hr; done) | (cases hq; done)
  · cases r <;> first | (cases e; assumption) | cases hr
theorem KAt.ne {S : Hs} {L : Role → Addr} {s : Ks} (h : KAt S L s) {r q : Role} (hr : (objK L s r).isSome) (hq : (objK L s q).isSome) (n : r ≠ q) : L r ≠ L q := fun e => n (h.inj r q hr hq e)
def rowOf (i : Nat) (e : Int × Att) : List Int := match e.2.stamp with
  | none => [e.2.glance, 1, i, e.1]
  | some z => [z, 0, i, e.1]
theorem rowOf_len (i : Nat) (e : Int × Att) : (rowOf i e).length = 4 := by unfold rowOf; split <;> rfl
def rowsAt : Nat → List (Int × Att) → List (List Int)
  | _, [] => []
  | n, e :: r => rowOf n e :: rowsAt (n + 1) r
theorem rowsAt_snoc : ∀ (l : List (Int × Att)) (n : Nat) (e : Int × Att), rowsAt n (l ++ [e]) = rowsAt n l ++ [rowOf (n + l.length) e]
  | [], n, e => rfl
  | x :: l, n, e => by
    show rowOf n x :: rowsAt (n + 1) (l ++ [e]) = rowOf n x :: (rowsAt (n + 1) l ++ [rowOf (n + (l.length + 1)) e])
    rw [rowsAt_snoc l (n + 1) e, show n + 1 + l.length = n + (l.length + 1) by omega]
theorem rowsAt_len : ∀ (l : List (Int × Att)) (n : Nat), (rowsAt n l).length = l.length
  | [], _ => rfl
  | x :: l, n => by show (rowsAt (n + 1) l).length + 1 = _; rw [rowsAt_len l]; rfl
theorem rowsAt_four : ∀ (l : List (Int × Att)) (n : Nat), ∀ r ∈ rowsAt n l, r.length = 4
  | [], _, r, h => by cases h
  | x :: l, n, r, h => by
    rcases List.mem_cons.mp h with e | h
    · rw [e]; exact rowOf_len n x
    · exact rowsAt_four l (n + 1) r h
def Ks.rows (s : Ks) : List (List Int) := rowsAt 0 s.atts
def Ks.order (s : Ks) : List Int := (srtR s.rows).map fun r => r.getD 3 0
theorem pget_of {α : Type} {kvs : List (Int × α)} {e : Int × α} (nd : (kvs.map Prod.fst).Nodup) (h : e ∈ kvs) : pget kvs e.1 = some e.2 := by
  induction kvs with
  | nil => cases h
  | cons p r ih =>
    obtain ⟨k, v⟩ := p
    rw [List.map_cons, List.nodup_cons] at nd
    unfold pget
    rcases List.mem_cons.mp h with q | h
    · subst q; rw [if_pos rfl]
    · have : k ≠ e.1 := fun q => nd.1 (by show k ∈ r.map Prod.fst; rw [q]; exact List.mem_map_of_mem h)
      rw [if_neg this]
      exact ih nd.2 h
theorem row_last {r : List Int} (h : r.length = 4) : getI (r.map D.int) 3 = some (.int (r.getD 3 0)) := by
  match r, h with
  | [a, b, c, d], _ => rfl
theorem korder_ok {T : Tbl} {k : Nat} (hT : T.fn k = some f_Keeper_order) (n : Nat) {N : Nat} {S : Hs} {L : Role → Addr} {s : Ks} {Q : VK2} (h : KAt S L s) (wf : Kwf N s) (hN : N ≤ 50000) (w : Q (.vl (s.order.map D.int)) S) : cal T (n + 1) k [.d (.ref (L .k))] S Q := by
  refine ⟨_, hT, rfl, rfl, ?_⟩
  generalize cal T n = c
  have gk := h.gk
  have ga := h.rd.gats
  refine ⟨_, rfl, Nat.le_of_ble_eq_true rfl, ?_⟩
  refine ⟨L .ats, _, ga, fun ho => ?_⟩
  have nk : L .k ≠ L .ats := h.ne rfl rfl nofun
  have gk1 : (su S (L .ats) (.fdc (s.atts.map fun (e : Int × Att) => (D.int e.1, D.ref (L (.i e.1)))) ho)) (L .k) = _ := (su_ne nk).trans gk
  have ga1 : (su S (L .ats) (.fdc (s.atts.map fun (e : Int × Att) => (D.int e.1, D.ref (L (.i e.1)))) ho)) (L .ats) = _ := su_same
  walk_at "go"
  refine ⟨_, _, _, rfl, ga1, ?_⟩
  refine forL_enum' (fun (e : Int × Att) => D.int e.1) s.atts (by simp) (fun n rest σ S2 => ∃ (pre : List (Int × Att)) (s2 s3 s4 : Option Vx), s.atts = pre ++ rest ∧ n = pre.length ∧ σ = [some (.d (.ref (L .k))), some (.vl ((rowsAt 0 pre).map tupI)), s2, s3, s4, none] ∧ S2 = su S (L .ats) (.fdc (s.atts.map fun (e : Int × Att) => (D.int e.1, D.ref (L (.i e.1)))) ho)) ?_ ?_ ?_ _ _ ⟨[], _, _, _, rfl, rfl, rfl, rfl⟩
  · rintro n l σ S2 ⟨pre, s2, s3, s4, e, rfl, rfl, rfl⟩
    exact ga1
  · rintro n σ S2 ⟨pre, s2, s3, s4, e, rfl, rfl, rfl⟩
    rw [List.append_nil] at e
    subst e
    refine ⟨ga1, ?_⟩
    rw [su_su, su_id ga]
    have four := rowsAt_four s.atts 0
    have len := rowsAt_len s.atts 0
    refine ⟨_, rfl, ⟨rowsAt 0 s.atts, rfl, fun p hp e => ?_, fun qs hp hq => ?_⟩⟩
    · have := four p hp
      rw [e] at this; cases this
    · have e := srtR_eq hp hq
      subst e
      refine compL_fm' tupI (fun r => some (.int (r.getD 3 0))) (srtR (rowsAt 0 s.atts)) rfl trivial (fun r hr P1 P2 h1 _ => ?_) ?_ ?_
      · have hr4 := four r ((srtR_perm _).mem_iff.mp hr)
        exact Br.tt ⟨_, rfl, ⟨_, row_last hr4, h1 _ rfl⟩⟩
      · rw [(srtR_perm _).length_eq, len]
        exact Nat.le_trans wf.al (Nat.le_trans hN (by decide))
      · rw [List.filterMap_eq_map']
        have : ((srtR (rowsAt 0 s.atts)).map fun r => D.int (r.getD 3 0)) = s.order.map D.int := by
          unfold Ks.order Ks.rows
          rw [List.map_map]; rfl
        show Q (.vl ((srtR (rowsAt 0 s.atts)).map fun r => D.int (r.getD 3 0))) S
        rw [this]; exact w
  · rintro n e rest he kk σ S2 hk ⟨pre, s2, s3, s4, epre, rfl, rfl, rfl⟩
    have hg := pget_of wf.an he
    have ni : L (.i e.1) ≠ L .ats := h.ne (by rw [oi hg]; rfl) rfl nofun
    have gi1 : (su S (L .ats) (.fdc (s.atts.map fun (e : Int × Att) => (D.int e.1, D.ref (L (.i e.1)))) ho)) (L (.i e.1)) = _ := (su_ne ni).trans (h.gi hg)
    have gd : dget (s.atts.map fun (e : Int × Att) => (D.int e.1, D.ref (L (.i e.1)))) (.int e.1) = some (.ref (L (.i e.1))) := by rw [dget_ats, hg]; rfl
    have ll : ((rowsAt 0 pre).map tupI).length < sizeLine := by
      rw [List.length_map, rowsAt_len]
      have := wf.al
      rw [epre, List.length_append] at this
      exact Nat.lt_of_le_of_lt (show pre.length ≤ 50000 by omega) (by decide)
    have fin : ∀ (row : List Int), rowOf pre.length e = row → kk [some (.d (.ref (L .k))), some (.vl ((rowsAt 0 pre).map tupI ++ [tupI row])), some (.d (.int (pre.length : Nat))), some (.d (.int e.1)), some (.d (.ref (L (.i e.1)))), none] (su S (L .ats) (.fdc (s.atts.map fun (e : Int × Att) => (D.int e.1, D.ref (L (.i e.1)))) ho)) := fun row hrow => by
      have er : (rowsAt 0 (pre ++ [e])).map tupI = (rowsAt 0 pre).map tupI ++ [tupI row] := by
        rw [rowsAt_snoc, Nat.zero_add, hrow, List.map_append]; rfl
      refine hk _ _ ⟨pre ++ [e], some (.d (.int (pre.length : Nat))), some (.d (.int e.1)), some (.d (.ref (L (.i e.1)))), by rw [epre]; simp, by simp, ?_, rfl⟩
      rw [er]
    refine ⟨_, rfl, ?_⟩
    walk_at "go"
    cases hs : e.2.stamp with
    | none =>
      unfold objI at gi1
      rw [hs] at gi1
      walk_at "run"
      refine Br.tt ?_
      walk_at "run"
      exact ⟨ll, fin [e.2.glance, 1, (pre.length : Nat), e.1] (by unfold rowOf; rw [hs])⟩
    | some z =>
      unfold objI at gi1
      rw [hs] at gi1
      walk_at "run"
      refine Br.ff ?_
      walk_at "run"
      exact ⟨ll, fin [z, 0, (pre.length : Nat), e.1] (by unfold rowOf; rw [hs])⟩
end LU

/-! K9: calls of a keeper, in plain Lean; what stays true. -/
namespace LU
open PySem L2 PySem.Spec PyProof.Rows DL LW
inductive Cl where
  | begin (a : Int) | look (a b : Int) | put (a b v : Int) | take (a : Int) | write (a : Int) | fall (a : Int)
  deriving DecidableEq
def Cl.d : Cl → D
  | .begin a => e2 sBegin a
  | .look a b => .tup [.str sLook, .int a, .int b]
  | .put a b v => e4 sPut a b v
  | .take a => e2 sTake a
  | .write a => e2 sWrite a
  | .fall a => e2 sFall a
def onA (s : Ks) (a : Int) (f : Att → Ks × D) : Ks × D := match pget s.atts a with
  | some t => f t
  | none => (s, .non)
def Ks.step (s : Ks) : Cl → Ks × D
  | .begin a => (s.begin a, .non)
  | .look a b => onA s a fun t => s.look a t b
  | .put a b v => onA s a fun t => (s.put a t b v, .non)
  | .take a => onA s a fun t => s.take a t
  | .write a => onA s a fun t => s.write a t
  | .fall a => onA s a fun t => (s.ends a t sFall, .non)
structure Going (s : Ks) (a : Int) (t : Att) : Prop where
  g : pget s.atts a = some t
  o : t.opn = true
  s : t.stamp = none
def Cl.fit (s : Ks) : Cl → Prop
  | .begin a => pget s.atts a = none
  | .look a b => (∃ t, Going s a t) ∧ inR s b
  | .put a b _ => (∃ t, Going s a t) ∧ inR s b
  | .take a => ∃ t, Going s a t
  | .write a => ∃ t z, pget s.atts a = some t ∧ t.opn = true ∧ t.stamp = some z
  | .fall a => ∃ t, Going s a t
/-- what stays true of holders, of what is left to be written -/
structure Kinv (s : Ks) : Prop where
  hold : ∀ b, inR s b → ∀ c, s.holders.getD b.toNat none = some c ↔ ∃ t, pget s.atts c = some t ∧ t.left ≠ [] ∧ (pget t.puts b).isSome
  lf : ∀ a t, pget s.atts a = some t → (t.left ≠ [] ↔ t.stamp.isSome ∧ t.opn = true)
  st : ∀ a t z, pget s.atts a = some t → t.stamp = some z → 0 ≤ z
  tm : 0 ≤ s.time
section
variable {N M : Nat} {s s' : Ks} {a b v : Int} {t t' : Att}
theorem AttWf.mono (h : AttWf N s t) (n : N ≤ M) (e : s'.boxes.length = s.boxes.length) : AttWf M s' t := by
  have ir : ∀ {x}, inR s x → inR s' x := fun h => ⟨h.1, by rw [e]; exact h.2⟩
  exact ⟨fun x hx => ir (h.lk x hx), fun x hx => ir (h.pt x hx), fun x hx => ⟨ir (h.lf x hx).1, (h.lf x hx).2⟩, Nat.le_trans h.lkl n, Nat.le_trans h.ptl n, h.ptn⟩
theorem Kwf.mono (h : Kwf N s) (n : N ≤ M) : Kwf M s := ⟨h.ml, h.hl, h.bl, Nat.le_trans h.el n, h.ep, Nat.le_trans h.al n, h.an, fun a t ht => (h.att a t ht).mono n rfl⟩
theorem Kwf.setA (h : Kwf N s) (ha : pget s.atts a = some t) (w : AttWf N s t') : Kwf N (s.setA a t') := by
  refine ⟨h.ml, h.hl, h.bl, h.el, h.ep, ?_, pput_keys h.an, fun c u hu => ?_⟩
  · show (pput s.atts a t').length ≤ N
    rw [pput_lens (by rw [ha]; rfl)]; exact h.al
  · by_cases q : c = a
    · subst q
      rw [setA_get] at hu; cases hu
      exact w.mono (Nat.le_refl _) rfl
    · rw [setA_ne q] at hu
      exact (h.att c u hu).mono (Nat.le_refl _) rfl
theorem pls_app (n : Nat) : ∀ a b : List D, pls n (a ++ b) = (pls n a && pls n b)
  | [], b => by simp [pls]
  | x :: a, b => by rw [List.cons_append]; simp only [pls]; rw [pls_app n a b, Bool.and_assoc]
theorem plns_snoc {l : List D} {e : D} (h : pls 5 l = true) (he : pl 5 e = true) : pls 5 (l ++ [e]) = true := by
  rw [pls_app]
  have : pls 5 [e] = true := by simp only [pls, Bool.and_true]; exact he
  rw [this, Bool.and_true]; exact h
theorem Kwf.evt (h : Kwf N s) (e : D) (he : pl 5 e = true) : Kwf (N + 1) (s.evt e) := by
  refine ⟨h.ml, h.hl, h.bl, ?_, plns_snoc h.ep he, Nat.le_succ_of_le h.al, h.an, fun c u hu => (h.att c u hu).mono (Nat.le_succ _) rfl⟩
  show (s.events ++ [e]).length ≤ N + 1
  rw [List.length_append]
  exact Nat.succ_le_succ h.el
theorem Kwf.tm (h : Kwf N s) (z : Int) : Kwf N { s with time := z } := ⟨h.ml, h.hl, h.bl, h.el, h.ep, h.al, h.an, fun c u hu => (h.att c u hu).mono (Nat.le_refl _) rfl⟩
theorem Kwf.ends (h : Kwf N s) (ha : pget s.atts a = some t) (w : List Nat) (hw : pl 5 (.str w) = true) : Kwf (N + 1) (s.ends a t w) := by
  have k := h.att a t ha
  exact (h.setA (t' := { t with opn := false }) ha ⟨k.lk, k.pt, k.lf, k.lkl, k.ptl, k.ptn⟩).evt _ (by
    show pls 4 [.str w, .int a] = true
    simp only [pls, Bool.and_true, Bool.and_eq_true]
    exact ⟨hw, rfl⟩)
theorem Kwf.evt' (h : Kwf (N + 1) s) (l : s.events.length ≤ N) (e : D) (he : pl 5 e = true) : Kwf (N + 1) (s.evt e) := by
  refine ⟨h.ml, h.hl, h.bl, ?_, plns_snoc h.ep he, h.al, h.an, fun c u hu => (h.att c u hu).mono (Nat.le_refl _) rfl⟩
  show (s.events ++ [e]).length ≤ N + 1
  rw [List.length_append]
  exact Nat.succ_le_succ l
theorem Kwf.look (h : Kwf N s) (ha : pget s.atts a = some t) (hb : inR s b) : Kwf (N + 1) (s.look a t b).1 := by
  unfold Ks.look
  split
  · exact h.evt _ rfl
  · have k := h.att a t ha
    split
    · exact h.ends ha _ rfl
    · refine Kwf.evt' ((h.mono (Nat.le_succ _)).setA (t' := t.glanced s b) ha ⟨fun x hx => ?_, k.pt, k.lf, ?_, Nat.le_succ_of_le k.ptl, k.ptn⟩) h.el _ rfl
      · rcases List.mem_append.mp hx with hx | hx
        · exact k.lk x hx
        · have : x = b := by simpa using hx
          rw [this]; exact hb
      · show (t.looked ++ [b]).length ≤ N + 1
        rw [List.length_append]
        exact Nat.succ_le_succ k.lkl
theorem pput_keys_mem {α : Type} {kvs : List (Int × α)} {x : Int} {y : α} {p : Int × α} (h : p ∈ pput kvs x y) : p.1 = x ∨ p ∈ kvs := by
  unfold pput at h
  split at h
  · obtain ⟨q, hq, rfl⟩ := List.mem_map.mp h
    by_cases e : q.1 = x
    · left; rw [if_pos e]; exact e
    · right; rw [if_neg e]; exact hq
  · rcases List.mem_append.mp h with h | h
    · exact .inr h
    · left
      have : p = (x, y) := by simpa using h
      rw [this]
theorem Kwf.put (h : Kwf N s) (ha : pget s.atts a = some t) (hb : inR s b) : Kwf (N + 1) (s.put a t b v) := by
  have k := h.att a t ha
  refine Kwf.evt' ((h.mono (Nat.le_succ _)).setA (t' := { t with puts := pput t.puts b v }) ha ⟨k.lk, fun p hp => ?_, fun x hx => ⟨(k.lf x hx).1, ?_⟩, Nat.le_succ_of_le k.lkl, ?_, pput_keys k.ptn⟩) h.el _ rfl
  · rcases pput_keys_mem hp with e | hp
    · rw [e]; exact hb
    · exact k.pt p hp
  · show (pget (pput t.puts b v) x).isSome
    rw [pget_put]
    split
    · rfl
    · exact (k.lf x hx).2
  · exact Nat.le_trans pput_len (Nat.succ_le_succ k.ptl)
theorem keys_get {b : Int} : b ∈ t.keys ↔ (pget t.puts b).isSome := by rw [pget_key]; rfl
theorem Kwf.take (h : Kwf N s) (ha : pget s.atts a = some t) : Kwf (N + 1) (s.take a t).1 := by
  have k := h.att a t ha
  unfold Ks.take
  split
  · exact h.ends ha _ rfl
  · split
    · refine Kwf.mono (N := N) ?_ (Nat.le_succ _)
      refine Kwf.holds ?_ _ _
      refine Kwf.setA (s := { s with time := s.time + 1 }) (h.tm _) ha ⟨k.lk, k.pt, fun x hx => ?_, k.lkl, k.ptl, k.ptn⟩
      have hx := srt_mem.mp hx
      have hk := keys_get.mp hx
      obtain ⟨p, hp, e⟩ := List.mem_map.mp hx
      exact ⟨by rw [← e]; exact k.pt p hp, hk⟩
    · exact h.ends ha _ rfl
theorem Kwf.write (h : Kwf N s) (ha : pget s.atts a = some t) : Kwf (N + 1) (s.write a t).1 := by
  unfold Ks.write
  split
  · exact h.mono (Nat.le_succ _)
  · rename_i b r hl
    have w := h.wrote (b := b) ha (r := r) (fun x hx => by rw [hl]; exact List.mem_cons_of_mem _ hx)
    split
    · exact Kwf.ends (w.holds _ _) setA_get _ rfl
    · exact w.mono (Nat.le_succ _)
theorem Kwf.begin (h : Kwf N s) (ha : pget s.atts a = none) : Kwf (N + 1) (s.begin a) := by
  have e : pput s.atts a ⟨s.time, [], [], [], none, true⟩ = s.atts ++ [(a, ⟨s.time, [], [], [], none, true⟩)] := pput_new ha
  refine Kwf.evt' (s := { s with atts := pput s.atts a ⟨s.time, [], [], [], none, true⟩ }) ⟨h.ml, h.hl, h.bl, Nat.le_succ_of_le h.el, h.ep, ?_, pput_keys h.an, fun c u hu => ?_⟩ h.el _ rfl
  · show (pput s.atts a _).length ≤ N + 1
    rw [e, List.length_append]
    exact Nat.succ_le_succ h.al
  · have hu : pget (pput s.atts a ⟨s.time, [], [], [], none, true⟩) c = some u := hu
    rw [pget_put] at hu
    split at hu
    · cases hu
      exact ⟨nofun, nofun, nofun, Nat.zero_le _, Nat.zero_le _, List.nodup_nil⟩
    · exact (h.att c u hu).mono (Nat.le_succ _) rfl
theorem Kwf.step (h : Kwf N s) {c : Cl} (f : c.fit s) : Kwf (N + 1) (s.step c).1 := by
  cases c with
  | begin a => exact h.begin f
  | look a b =>
    obtain ⟨⟨t, g⟩, hb⟩ := f
    show Kwf (N + 1) (onA s a _).1
    unfold onA; rw [g.g]; exact h.look g.g hb
  | put a b v =>
    obtain ⟨⟨t, g⟩, hb⟩ := f
    show Kwf (N + 1) (onA s a _).1
    unfold onA; rw [g.g]; exact h.put g.g hb
  | take a =>
    obtain ⟨t, g⟩ := f
    show Kwf (N + 1) (onA s a _).1
    unfold onA; rw [g.g]; exact h.take g.g
  | write a =>
    obtain ⟨t, z, g, _⟩ := f
    show Kwf (N + 1) (onA s a _).1
    unfold onA; rw [g]; exact h.write g
  | fall a =>
    obtain ⟨t, g⟩ := f
    show Kwf (N + 1) (onA s a _).1
    unfold onA; rw [g.g]; exact h.ends g.g _ rfl
/-! the invariant of holders -/
theorem Kinv.setA (h : Kinv s) (ha : pget s.atts a = some t) (e1 : t'.left ≠ [] ↔ t.left ≠ []) (e2 : t.left ≠ [] → ∀ b, (pget t'.puts b).isSome = (pget t.puts b).isSome) (l : t'.left ≠ [] ↔ t'.stamp.isSome ∧ t'.opn = true) (st : ∀ z, t'.stamp = some z → 0 ≤ z) : Kinv (s.setA a t') := by
  refine ⟨fun b hb c => ?_, fun c u hu => ?_, fun c u z hu hz => ?_, h.tm⟩
  · have := h.hold b hb c
    refine this.trans ?_
    by_cases q : c = a
    · subst q
      rw [setA_get]
      constructor
      · rintro ⟨u, hu, h1, h2⟩
        rw [ha] at hu; cases hu
        exact ⟨t', rfl, e1.mpr h1, by rw [e2 h1]; exact h2⟩
      · rintro ⟨u, hu, h1, h2⟩
        cases hu
        exact ⟨t, ha, e1.mp h1, by rw [← e2 (e1.mp h1)]; exact h2⟩
    · rw [setA_ne q]
  · by_cases q : c = a
    · subst q; rw [setA_get] at hu; cases hu; exact l
    · rw [setA_ne q] at hu; exact h.lf c u hu
  · by_cases q : c = a
    · subst q; rw [setA_get] at hu; cases hu; exact st z hz
    · rw [setA_ne q] at hu; exact h.st c u z hu hz
theorem Kinv.evt (h : Kinv s) (e : D) : Kinv (s.evt e) := ⟨h.hold, h.lf, h.st, h.tm⟩
theorem Kinv.fell (h : Kinv s) (g : Going s a t) (w : List Nat) : Kinv (s.ends a t w) := by
  have hl : ¬ t.left ≠ [] := fun q => by have := ((h.lf a t g.g).mp q).1; rw [g.s] at this; cases this
  exact (h.setA (t' := { t with opn := false }) g.g Iff.rfl (fun _ _ => rfl) ⟨fun q => (hl q).elim, fun q => (by have := q.2; cases this)⟩ fun z hz => h.st a t z g.g hz).evt _
theorem Kinv.look (h : Kinv s) (g : Going s a t) : Kinv (s.look a t b).1 := by
  unfold Ks.look
  split
  · exact h.evt _
  · split
    · exact h.fell g _
    · exact (h.setA (t' := t.glanced s b) g.g Iff.rfl (fun _ _ => rfl) (h.lf a t g.g) fun z hz => h.st a t z g.g hz).evt _
theorem Kinv.put (h : Kinv s) (g : Going s a t) : Kinv (s.put a t b v) := by
  have hl : ¬ t.left ≠ [] := fun q => by have := ((h.lf a t g.g).mp q).1; rw [g.s] at this; cases this
  exact (h.setA (t' := { t with puts := pput t.puts b v }) g.g Iff.rfl (fun q => (hl q).elim) (h.lf a t g.g) fun z hz => h.st a t z g.g hz).evt _
theorem set_getD {α : Type} {l : List α} {n m : Nat} {x d : α} (h : n < l.length) : (l.set n x).getD m d = if m = n then x else l.getD m d := by
  rw [List.getD_eq_getElem?_getD, List.getElem?_set]
  by_cases e : n = m
  · subst e
    rw [if_pos rfl, if_pos h, if_pos rfl]; rfl
  · rw [if_neg e, if_neg fun q => e q.symm, List.getD_eq_getElem?_getD]
theorem holds_get {o : Option Int} : ∀ (l : List Int) (h : List (Option Int)) (b : Int), (∀ x ∈ l, 0 ≤ x ∧ x < h.length) → 0 ≤ b → (l.foldl (fun h b => h.set b.toNat o) h).getD b.toNat none = if b ∈ l then o else h.getD b.toNat none
  | [], h, b, _, _ => by simp
  | x :: l, h, b, hr, hb => by
    have hx := hr x List.mem_cons_self
    rw [List.foldl_cons, holds_get l _ b (fun y hy => by rw [List.length_set]; exact hr y (List.mem_cons_of_mem _ hy)) hb]
    by_cases e : b ∈ l
    · rw [if_pos e, if_pos (List.mem_cons_of_mem _ e)]
    · rw [if_neg e, set_getD (by omega)]
      by_cases e2 : b = x
      · subst e2; simp
      · rw [if_neg (by omega), if_neg (by simp [e, e2])]
theorem Kinv.take (h : Kinv s) (wf : Kwf N s) (g : Going s a t) : Kinv (s.take a t).1 := by
  have hl : ¬ t.left ≠ [] := fun q => by have := ((h.lf a t g.g).mp q).1; rw [g.s] at this; cases this
  have k := wf.att a t g.g
  unfold Ks.take
  split
  · exact h.fell g _
  · rename_i hp
    split
    · rename_i hc
      have hne : srt t.keys ≠ [] := fun q => hp (by
        have := (srt_perm t.keys).length_eq
        rw [q] at this
        cases hq : t.puts with
        | nil => rfl
        | cons p r => unfold Att.keys at this; rw [hq] at this; cases this)
      have hr : ∀ x ∈ srt t.keys, inR s x := fun x hx => by
        obtain ⟨p, hp, e⟩ := List.mem_map.mp (srt_mem.mp hx)
        rw [← e]; exact k.pt p hp
      have ht : 0 ≤ s.time := h.tm
      have hfree : ∀ x ∈ t.keys, s.free a x = true := by
        unfold Ks.canTake at hc
        simp only [Bool.and_eq_true, List.all_eq_true] at hc
        exact hc.2
      refine ⟨fun b hb c => ?_, fun c u hu => ?_, fun c u z hu hz => ?_, by show 0 ≤ s.time + 1; omega⟩
      · have e : (s.takes a t).holders.getD b.toNat none = if b ∈ srt t.keys then some a else s.holders.getD b.toNat none := holds_get (srt t.keys) s.holders b (fun x hx => by have := hr x hx; rw [wf.hl]; exact ⟨this.1, this.2⟩) hb.1
        have old := h.hold b hb
        rw [e]
        have ga : pget (s.takes a t).atts a = some { t with stamp := some (s.time + 1), left := srt t.keys } := setA_get (s := { s with time := s.time + 1 })
        have gn : ∀ c, c ≠ a → pget (s.takes a t).atts c = pget s.atts c := fun c q => setA_ne (s := { s with time := s.time + 1 }) q
        by_cases hk : b ∈ t.keys
        · rw [if_pos (srt_mem.mpr hk)]
          constructor
          · intro e; cases e
            exact ⟨_, ga, hne, keys_get.mp hk⟩
          · rintro ⟨u, hu, h1, h2⟩
            by_cases q : c = a
            · rw [q]
            · rw [gn c q] at hu
              have hh := (old c).mpr ⟨u, hu, h1, h2⟩
              have hf := hfree b hk
              unfold Ks.free at hf
              rw [hh] at hf
              exact absurd (of_decide_eq_true hf) q
        · rw [if_neg fun z => hk (srt_mem.mp z)]
          refine (old c).trans ?_
          by_cases q : c = a
          · subst q
            rw [ga]
            constructor
            · rintro ⟨u, hu, h1, _⟩
              rw [g.g] at hu; cases hu
              exact (hl h1).elim
            · rintro ⟨u, hu, h1, h2⟩
              cases hu
              exact (hk (keys_get.mpr h2)).elim
          · rw [gn c q]
      · by_cases q : c = a
        · subst q
          have hu : pget (({ s with time := s.time + 1 } : Ks).setA c { t with stamp := some (s.time + 1), left := srt t.keys }).atts c = some u := hu
          rw [setA_get] at hu; cases hu
          exact ⟨fun _ => ⟨rfl, g.o⟩, fun _ => hne⟩
        · have hu : pget (({ s with time := s.time + 1 } : Ks).setA a { t with stamp := some (s.time + 1), left := srt t.keys }).atts c = some u := hu
          rw [setA_ne q] at hu
          exact h.lf c u hu
      · by_cases q : c = a
        · subst q
          have hu : pget (({ s with time := s.time + 1 } : Ks).setA c { t with stamp := some (s.time + 1), left := srt t.keys }).atts c = some u := hu
          rw [setA_get] at hu; cases hu
          have : s.time + 1 = z := Option.some.inj hz
          omega
        · have hu : pget (({ s with time := s.time + 1 } : Ks).setA a { t with stamp := some (s.time + 1), left := srt t.keys }).atts c = some u := hu
          rw [setA_ne q] at hu
          exact h.st c u z hu hz
    · exact h.fell g _
theorem Kinv.write (h : Kinv s) (wf : Kwf N s) (ha : pget s.atts a = some t) {z : Int} (hs : t.stamp = some z) (ho : t.opn = true) : Kinv (s.write a t).1 := by
  have hne := (h.lf a t ha).mpr ⟨by rw [hs]; rfl, ho⟩
  have k := wf.att a t ha
  unfold Ks.write
  split
  · exact h
  · rename_i b0 r hl
    have gs : ∀ (r : List Int), pget (s.wrote a t b0 r).atts a = some { t with left := r } := fun r => setA_get (s := { s with boxes := s.boxes.set b0.toNat ((pget t.puts b0).getD 0), marks := s.marks.set b0.toNat (t.stamp.getD 0) })
    have gn : ∀ (r : List Int) c, c ≠ a → pget (s.wrote a t b0 r).atts c = pget s.atts c := fun r c q => setA_ne (s := { s with boxes := s.boxes.set b0.toNat ((pget t.puts b0).getD 0), marks := s.marks.set b0.toNat (t.stamp.getD 0) }) q
    have ir : ∀ (r : List Int) b, inR (s.wrote a t b0 r) b → inR s b := fun r b hb => ⟨hb.1, by have := hb.2; have e : (s.wrote a t b0 r).boxes.length = s.boxes.length := List.length_set; rw [e] at this; exact this⟩
    split
    · rename_i er
      subst er
      have hr : ∀ x ∈ t.keys, 0 ≤ x ∧ x < s.holders.length := fun x hx => by
        obtain ⟨p, hp, e⟩ := List.mem_map.mp hx
        rw [wf.hl, ← e]; exact k.pt p hp
      have ge : pget (((s.wrote a t b0 []).holds t.keys none).ends a { t with left := [] } sDone).atts a = some { t with left := [], opn := false } := setA_get
      have gne : ∀ c, c ≠ a → pget (((s.wrote a t b0 []).holds t.keys none).ends a { t with left := [] } sDone).atts c = pget s.atts c := fun c q => (setA_ne q).trans (gn [] c q)
      refine ⟨fun b hb c => ?_, fun c u hu => ?_, fun c u y hu hy => ?_, h.tm⟩
      · have hb := ir [] b hb
        have e : (((s.wrote a t b0 []).holds t.keys none).ends a { t with left := [] } sDone).holders.getD b.toNat none = if b ∈ t.keys then none else s.holders.getD b.toNat none := holds_get t.keys s.holders b hr hb.1
        have old := h.hold b hb
        rw [e]
        by_cases hk : b ∈ t.keys
        · rw [if_pos hk]
          have oa := (old a).mpr ⟨t, ha, hne, keys_get.mp hk⟩
          constructor
          · intro e; cases e
          · rintro ⟨u, hu, h1, h2⟩
            by_cases q : c = a
            · subst q; rw [ge] at hu; cases hu; exact (h1 rfl).elim
            · rw [gne c q] at hu
              have oc := (old c).mpr ⟨u, hu, h1, h2⟩
              rw [oa] at oc
              exact (q (Option.some.inj oc).symm).elim
        · rw [if_neg hk]
          refine (old c).trans ?_
          by_cases q : c = a
          · subst q
            rw [ge]
            constructor
            · rintro ⟨u, hu, _, h2⟩
              rw [ha] at hu; cases hu
              exact (hk (keys_get.mpr h2)).elim
            · rintro ⟨u, hu, h1, _⟩
              cases hu; exact (h1 rfl).elim
          · rw [gne c q]
      · by_cases q : c = a
        · subst q; rw [ge] at hu; cases hu
          exact ⟨fun z => (z rfl).elim, fun z => (by have := z.2; cases this)⟩
        · rw [gne c q] at hu; exact h.lf c u hu
      · by_cases q : c = a
        · subst q; rw [ge] at hu; cases hu; exact h.st c t y ha hy
        · rw [gne c q] at hu; exact h.st c u y hu hy
    · rename_i er
      refine ⟨fun b hb c => ?_, fun c u hu => ?_, fun c u y hu hy => ?_, h.tm⟩
      · refine (h.hold b (ir r b hb) c).trans ?_
        by_cases q : c = a
        · subst q
          rw [gs]
          constructor
          · rintro ⟨u, hu, _, h2⟩
            rw [ha] at hu; cases hu
            exact ⟨_, rfl, er, h2⟩
          · rintro ⟨u, hu, _, h2⟩
            cases hu
            exact ⟨t, ha, hne, h2⟩
        · rw [gn r c q]
      · by_cases q : c = a
        · subst q; rw [gs] at hu; cases hu
          exact ⟨fun _ => ⟨by show t.stamp.isSome; rw [hs]; rfl, ho⟩, fun _ => er⟩
        · rw [gn r c q] at hu; exact h.lf c u hu
      · by_cases q : c = a
        · subst q; rw [gs] at hu; cases hu; exact h.st c t y ha hy
        · rw [gn r c q] at hu; exact h.st c u y hu hy
theorem Kinv.begin (h : Kinv s) (ha : pget s.atts a = none) : Kinv (s.begin a) := by
  have g : ∀ c, pget (s.begin a).atts c = if a = c then some ⟨s.time, [], [], [], none, true⟩ else pget s.atts c := fun c => pget_put _ _ _ _
  refine ⟨fun b hb c => ?_, fun c u hu => ?_, fun c u z hu hz => ?_, h.tm⟩
  · refine (h.hold b hb c).trans ?_
    rw [g]
    by_cases q : a = c
    · subst q
      rw [if_pos rfl, ha]
      exact ⟨fun ⟨_, e, _⟩ => (by cases e), fun ⟨_, e, h1, _⟩ => (by cases e; exact (h1 rfl).elim)⟩
    · rw [if_neg q]
  · rw [g] at hu
    by_cases q : a = c
    · rw [if_pos q] at hu; cases hu
      exact ⟨fun z => (z rfl).elim, fun z => (by have := z.1; cases this)⟩
    · rw [if_neg q] at hu; exact h.lf c u hu
  · rw [g] at hu
    by_cases q : a = c
    · rw [if_pos q] at hu; cases hu; cases hz
    · rw [if_neg q] at hu; exact h.st c u z hu hz
theorem Kinv.step (h : Kinv s) (wf : Kwf N s) {c : Cl} (f : c.fit s) : Kinv (s.step c).1 := by
  cases c with
  | begin a => exact h.begin f
  | look a b =>
    obtain ⟨⟨t, g⟩, hb⟩ := f
    show Kinv (onA s a _).1
    unfold onA; rw [g.g]; exact h.look g
  | put a b v =>
    obtain ⟨⟨t, g⟩, hb⟩ := f
    show Kinv (onA s a _).1
    unfold onA; rw [g.g]; exact h.put g
  | take a =>
    obtain ⟨t, g⟩ := f
    show Kinv (onA s a _).1
    unfold onA; rw [g.g]; exact h.take wf g
  | write a =>
    obtain ⟨t, z, g, ho, hs⟩ := f
    show Kinv (onA s a _).1
    unfold onA; rw [g]; exact h.write wf g hs ho
  | fall a =>
    obtain ⟨t, g⟩ := f
    show Kinv (onA s a _).1
    unfold onA; rw [g.g]; exact h.fell g _
theorem Kinv.new {wd : D} {st : List Int} : Kinv (Ks.new wd st) := by
  refine ⟨fun b hb c => ?_, fun c u hu => (by cases hu), fun c u z hu => (by cases hu), Int.le_refl _⟩
  constructor
  · intro e
    have : (List.replicate st.length (none : Option Int)).getD b.toNat none = none := by
      rw [List.getD_eq_getElem?_getD, List.getElem?_replicate]; split <;> rfl
    have e : (List.replicate st.length (none : Option Int)).getD b.toNat none = some c := e
    rw [this] at e; cases e
  · rintro ⟨u, hu, _⟩; cases hu
theorem Kwf.new {wd : D} {st : List Int} (h : st.length ≤ 60) : Kwf N (Ks.new wd st) := by
  refine ⟨?_, ?_, h, Nat.zero_le _, by simp [Ks.new, pls], Nat.zero_le _, List.nodup_nil, fun c u hu => by cases hu⟩
  · show (List.replicate _ _).length = _; rw [List.length_replicate]; rfl
  · show (List.replicate _ _).length = _; rw [List.length_replicate]; rfl
end
end LU

/-! M1: the laws' own keeper, as it stands in the heap (dicts), for the same plain keeper. -/
namespace LU
open PySem L2 PySem.Spec PyProof.Rows DL LW
abbrev kBoxes : List Nat := [98, 111, 120, 101, 115]
abbrev kMarks : List Nat := [109, 97, 114, 107, 115]
abbrev kClock : List Nat := [99, 108, 111, 99, 107]
abbrev kTries : List Nat := [116, 114, 105, 101, 115]
abbrev kLog : List Nat := [108, 111, 103]
abbrev kGlance : List Nat := [103, 108, 97, 110, 99, 101]
abbrev kLooked : List Nat := [108, 111, 111, 107, 101, 100]
abbrev kPuts : List Nat := [112, 117, 116, 115]
abbrev kLeft : List Nat := [108, 101, 102, 116]
abbrev kStamp : List Nat := [115, 116, 97, 109, 112]
abbrev kOpen : List Nat := [111, 112, 101, 110]
abbrev topM (L : Role → Addr) (n : Int) : O := .dic [(.str kBoxes, .ref (L .bx)), (.str kMarks, .ref (L .mk)), (.str kClock, .int n), (.str kTries, .ref (L .ats)), (.str kLog, .ref (L .ev))]
def stampM (t : Att) : Int := t.stamp.getD (-1)
def objJ (L : Role → Addr) (a : Int) (t : Att) : O := .dic [(.str kGlance, .int t.glance), (.str kLooked, .ref (L (.lk a))), (.str kPuts, .ref (L (.pt a))), (.str kLeft, .ref (L (.lf a))), (.str kStamp, .int (stampM t)), (.str kOpen, .bl t.opn)]
def objM (L : Role → Addr) (s : Ks) : Role → Option O
  | .k => some (topM L s.time)
  | .bx => some (.lst (s.boxes.map D.int))
  | .mk => some (.lst (s.marks.map D.int))
  | .hd => none
  | .ats => some (.dic (s.atts.map fun e => (.int e.1, .ref (L (.i e.1)))))
  | .ev => some (.lst s.events)
  | .i a => (pget s.atts a).map (objJ L a)
  | .lk a => (pget s.atts a).map fun t => .lst (t.looked.map D.int)
  | .pt a => (pget s.atts a).map fun t => .dic (encI D.int t.puts)
  | .lf a => (pget s.atts a).map fun t => .lst (t.left.map D.int)
theorem moi {L : Role → Addr} {s : Ks} {a : Int} {t : Att} (ha : pget s.atts a = some t) : objM L s (.i a) = some (objJ L a t) := by
  show (pget s.atts a).map _ = _
  rw [ha]; rfl
theorem molk {L : Role → Addr} {s : Ks} {a : Int} {t : Att} (ha : pget s.atts a = some t) : objM L s (.lk a) = some (.lst (t.looked.map D.int)) := by
  show (pget s.atts a).map _ = _
  rw [ha]; rfl
theorem mopt {L : Role → Addr} {s : Ks} {a : Int} {t : Att} (ha : pget s.atts a = some t) : objM L s (.pt a) = some (.dic (encI D.int t.puts)) := by
  show (pget s.atts a).map _ = _
  rw [ha]; rfl
theorem molf {L : Role → Addr} {s : Ks} {a : Int} {t : Att} (ha : pget s.atts a = some t) : objM L s (.lf a) = some (.lst (t.left.map D.int)) := by
  show (pget s.atts a).map _ = _
  rw [ha]; rfl
abbrev MAt (S : Hs) (L : Role → Addr) (s : Ks) : Prop := At S L (objM L s)
/-- a step of the keeper's: what else there is stays -/
structure MStep (S : Hs) (L : Role → Addr) (s : Ks) (S' : Hs) (L' : Role → Addr) (s' : Ks) : Prop where
  st : Step S L (objM L s) S' L' (objM L' s')
  k : L' .k = L .k
theorem MStep.to {S S' : Hs} {L L' : Role → Addr} {s s' : Ks} (h : MStep S L s S' L' s') : MAt S' L' s' := h.st.to
theorem MAt.refl {S : Hs} {L : Role → Addr} {s : Ks} (h : MAt S L s) : MStep S L s S L s := ⟨At.refl h, rfl⟩
theorem MStep.trans {S1 S2 S3 : Hs} {L1 L2 L3 : Role → Addr} {s1 s2 s3 : Ks} (h : MStep S1 L1 s1 S2 L2 s2) (g : MStep S2 L2 s2 S3 L3 s3) : MStep S1 L1 s1 S3 L3 s3 := ⟨h.st.trans g.st, g.k.trans h.k⟩
section
variable {S : Hs} {L : Role → Addr} {s : Ks}
theorem MAt.uev (h : MAt S L s) (e : D) : MStep S L s (su S (L .ev) (.lst (s.events ++ [e]))) L (s.evt e) :=
  ⟨At.upd h .ev rfl (fun r z => by cases r <;> first | rfl | exact (z rfl).elim) rfl, rfl⟩
theorem MAt.ubx (h : MAt S L s) (l : List Int) : MStep S L s (su S (L .bx) (.lst (l.map D.int))) L { s with boxes := l } :=
  ⟨At.upd h .bx rfl (fun r z => by cases r <;> first | rfl | exact (z rfl).elim) rfl, rfl⟩
theorem MAt.umk (h : MAt S L s) (l : List Int) : MStep S L s (su S (L .mk) (.lst (l.map D.int))) L { s with marks := l } :=
  ⟨At.upd h .mk rfl (fun r z => by cases r <;> first | rfl | exact (z rfl).elim) rfl, rfl⟩
theorem MAt.utm (h : MAt S L s) (n : Int) : MStep S L s (su S (L .k) (topM L n)) L { s with time := n } :=
  ⟨At.upd h .k rfl (fun r z => by cases r <;> first | rfl | exact (z rfl).elim) rfl, rfl⟩
variable {a : Int} {t : Att}
theorem objM_setA (ha : pget s.atts a = some t) (t' : Att) : (∀ r, (∀ b, r ≠ .i b ∧ r ≠ .lk b ∧ r ≠ .pt b ∧ r ≠ .lf b) → objM L (s.setA a t') r = objM L s r) ∧ (∀ b, b ≠ a → pget (s.setA a t').atts b = pget s.atts b) ∧ pget (s.setA a t').atts a = some t' := by
  refine ⟨fun r h => ?_, fun b h => ?_, ?_⟩
  · cases r with
    | ats =>
      show some (O.dic ((pput s.atts a t').map fun e => (D.int e.1, D.ref (L (.i e.1))))) = some (O.dic (s.atts.map fun e => (D.int e.1, D.ref (L (.i e.1)))))
      rw [pput_fst (fun z => (D.int z, D.ref (L (.i z)))) (by rw [ha]; rfl)]
    | i b => exact ((h b).1 rfl).elim
    | lk b => exact ((h b).2.1 rfl).elim
    | pt b => exact ((h b).2.2.1 rfl).elim
    | lf b => exact ((h b).2.2.2 rfl).elim
    | _ => rfl
  · show pget (pput s.atts a t') b = _
    rw [pget_put, if_neg fun q => h q.symm]
  · show pget (pput s.atts a t') a = _
    rw [pget_put, if_pos rfl]
/-- one object of one attempt changed -/
theorem MAt.updA (h : MAt S L s) (ha : pget s.atts a = some t) (t' : Att) (r0 : Role) (hr0 : r0 = .i a ∨ r0 = .lk a ∨ r0 = .pt a ∨ r0 = .lf a) {o : O} (hi : r0 ≠ .i a → objJ L a t' = objJ L a t) (hl : r0 ≠ .lk a → t'.looked = t.looked) (hp : r0 ≠ .pt a → t'.puts = t.puts) (hf : r0 ≠ .lf a → t'.left = t.left)
    (e : objM L (s.setA a t') r0 = some o) : MStep S L s (su S (L r0) o) L (s.setA a t') := by
  obtain ⟨e1, e2, e3⟩ := objM_setA (L := L) ha t'
  refine ⟨At.upd h r0 ?_ (fun r z => ?_) e, rfl⟩
  · rcases hr0 with rfl | rfl | rfl | rfl
    · rw [moi ha]; rfl
    · rw [molk ha]; rfl
    · rw [mopt ha]; rfl
    · rw [molf ha]; rfl
  · cases r with
    | i b =>
      by_cases q : b = a
      · subst q
        show (pget (s.setA b t').atts b).map _ = (pget s.atts b).map _
        rw [e3, ha]
        show some (objJ L b t') = some (objJ L b t)
        rw [hi z.symm]
      · show (pget (s.setA a t').atts b).map _ = (pget s.atts b).map _
        rw [e2 b q]
    | lk b =>
      by_cases q : b = a
      · subst q
        show (pget (s.setA b t').atts b).map _ = (pget s.atts b).map _
        rw [e3, ha]
        show some (O.lst (t'.looked.map D.int)) = some (O.lst (t.looked.map D.int))
        rw [hl z.symm]
      · show (pget (s.setA a t').atts b).map _ = (pget s.atts b).map _
        rw [e2 b q]
    | pt b =>
      by_cases q : b = a
      · subst q
        show (pget (s.setA b t').atts b).map _ = (pget s.atts b).map _
        rw [e3, ha]
        show some (O.dic (encI D.int t'.puts)) = some (O.dic (encI D.int t.puts))
        rw [hp z.symm]
      · show (pget (s.setA a t').atts b).map _ = (pget s.atts b).map _
        rw [e2 b q]
    | lf b =>
      by_cases q : b = a
      · subst q
        show (pget (s.setA b t').atts b).map _ = (pget s.atts b).map _
        rw [e3, ha]
        show some (O.lst (t'.left.map D.int)) = some (O.lst (t.left.map D.int))
        rw [hf z.symm]
      · show (pget (s.setA a t').atts b).map _ = (pget s.atts b).map _
        rw [e2 b q]
    | _ => exact e1 _ (fun b => ⟨(by intro q; cases q), (by intro q; cases q), (by intro q; cases q), (by intro q; cases q)⟩)
theorem MAt.ui (h : MAt S L s) (ha : pget s.atts a = some t) (t' : Att) (hl : t'.looked = t.looked) (hp : t'.puts = t.puts) (hf : t'.left = t.left) : MStep S L s (su S (L (.i a)) (objJ L a t')) L (s.setA a t') :=
  h.updA ha t' (.i a) (.inl rfl) (fun q => (q rfl).elim) (fun _ => hl) (fun _ => hp) (fun _ => hf) (by show (pget (s.setA a t').atts a).map _ = _; rw [(objM_setA (L := L) ha t').2.2]; rfl)
theorem MAt.ulk (h : MAt S L s) (ha : pget s.atts a = some t) (l : List Int) : MStep S L s (su S (L (.lk a)) (.lst (l.map D.int))) L (s.setA a { t with looked := l }) :=
  h.updA ha _ (.lk a) (.inr (.inl rfl)) (fun _ => rfl) (fun q => (q rfl).elim) (fun _ => rfl) (fun _ => rfl) (by show (pget (s.setA a _).atts a).map _ = _; rw [(objM_setA (L := L) ha _).2.2]; rfl)
theorem MAt.upt (h : MAt S L s) (ha : pget s.atts a = some t) (l : List (Int × Int)) : MStep S L s (su S (L (.pt a)) (.dic (encI D.int l))) L (s.setA a { t with puts := l }) :=
  h.updA ha _ (.pt a) (.inr (.inr (.inl rfl))) (fun _ => rfl) (fun _ => rfl) (fun q => (q rfl).elim) (fun _ => rfl) (by show (pget (s.setA a _).atts a).map _ = _; rw [(objM_setA (L := L) ha _).2.2]; rfl)
theorem MAt.ulf (h : MAt S L s) (ha : pget s.atts a = some t) (l : List Int) : MStep S L s (su S (L (.lf a)) (.lst (l.map D.int))) L (s.setA a { t with left := l }) :=
  h.updA ha _ (.lf a) (.inr (.inr (.inr rfl))) (fun _ => rfl) (fun _ => rfl) (fun _ => rfl) (fun q => (q rfl).elim) (by show (pget (s.setA a _).atts a).map _ = _; rw [(objM_setA (L := L) ha _).2.2]; rfl)
/-! reading -/
theorem MAt.gk (h : MAt S L s) : S (L .k) = some (topM L s.time) := h.at_ .k _ rfl
theorem MAt.gi (h : MAt S L s) (ha : pget s.atts a = some t) : S (L (.i a)) = some (objJ L a t) := h.at_ (.i a) _ (moi ha)
theorem MAt.glk (h : MAt S L s) (ha : pget s.atts a = some t) : S (L (.lk a)) = some (.lst (t.looked.map D.int)) := h.at_ (.lk a) _ (molk ha)
theorem MAt.gpt (h : MAt S L s) (ha : pget s.atts a = some t) : S (L (.pt a)) = some (.dic (encI D.int t.puts)) := h.at_ (.pt a) _ (mopt ha)
theorem MAt.glf (h : MAt S L s) (ha : pget s.atts a = some t) : S (L (.lf a)) = some (.lst (t.left.map D.int)) := h.at_ (.lf a) _ (molf ha)
theorem MAt.gb (h : MAt S L s) : S (L .bx) = some (.lst (s.boxes.map D.int)) := h.at_ .bx _ rfl
theorem MAt.gm (h : MAt S L s) : S (L .mk) = some (.lst (s.marks.map D.int)) := h.at_ .mk _ rfl
theorem MAt.gat (h : MAt S L s) : S (L .ats) = some (.dic (s.atts.map fun (e : Int × Att) => (.int e.1, .ref (L (.i e.1))))) := h.at_ .ats _ rfl
theorem MAt.gev (h : MAt S L s) : S (L .ev) = some (.lst s.events) := h.at_ .ev _ rfl
theorem MAt.ne (h : MAt S L s) {r q : Role} (hr : (objM L s r).isSome) (hq : (objM L s q).isSome) (n : r ≠ q) : L r ≠ L q := fun e => n (h.inj r q hr hq e)
theorem dat {L : Role → Addr} (ha : pget s.atts a = some t) : dget (s.atts.map fun (e : Int × Att) => (D.int e.1, D.ref (L (.i e.1)))) (.int a) = some (.ref (L (.i a))) := by rw [dget_ats, ha]; rfl
end
end LU

/-! M2: the laws' own keeper: who holds, what is still. -/
namespace LU
open PySem L2 PySem.Spec PyProof.Rows DL LW
local macro_rules | `(tactic| walk_at "s1") => `(tactic| first | with_reducible refine one1_i ?_ | with_reducible refine storD ?_ | with_reducible refine storV ?_ | with_reducible refine storVd ?_ | refine ⟨_, rfl, ?_⟩ | refine ⟨_, _, rfl, by assumption, ?_⟩ | refine ⟨_, _, _, rfl, by assumption, rfl, ?_⟩ | refine ⟨_, by assumption, ?_⟩ | refine ⟨rfl, ?_⟩ | refine ⟨.inl rfl, ?_⟩ | refine ⟨Nat.le_of_ble_eq_true rfl, ?_⟩)
local macro_rules | `(tactic| walk_at "go") => `(tactic| (walk_at "s1"; repeat ((fail_if_success with_reducible refine isS ?_); walk_at "s1")))
local macro_rules | `(tactic| walk_at "run") => `(tactic| repeat walk_at "s1")
/-- all but one's puts can be read -/
structure MRd (a : Int) (S : Hs) (L : Role → Addr) (s : Ks) : Prop where
  at_ : ∀ r o, r ≠ .pt a → objM L s r = some o → S (L r) = some o
  inj : ∀ r q, (objM L s r).isSome → (objM L s q).isSome → L r = L q → r = q
theorem MRd.ne {a : Int} {S : Hs} {L : Role → Addr} {s : Ks} (h : MRd a S L s) {r q : Role} (hr : (objM L s r).isSome) (hq : (objM L s q).isSome) (n : r ≠ q) : L r ≠ L q := fun e => n (h.inj r q hr hq e)
theorem MAt.rd {S : Hs} {L : Role → Addr} {s : Ks} (h : MAt S L s) (a : Int) : MRd a S L s := ⟨fun r o _ e => h.at_ r o e, h.inj⟩
theorem MAt.lockP {S : Hs} {L : Role → Addr} {s : Ks} {a : Int} {t : Att} (h : MAt S L s) (ha : pget s.atts a = some t) (o : O) : MRd a (su S (L (.pt a)) o) L s :=
  ⟨fun r o' n e => by rw [su_ne (h.ne (by rw [e]; rfl) (by rw [mopt ha]; rfl) n)]; exact h.at_ r o' e, h.inj⟩
section
variable {T : Tbl} (n : Nat) {N : Nat} {S : Hs} {L : Role → Addr} {s : Ks} {a b v : Int} {t : Att} {Q : VK2}
theorem held_ok (hT : T.fn 198 = some f_law_held) (h : MRd a S L s) (iv : Kinv s) (wf : Kwf N s) (hb : inR s b) (w : Q (.d (.bl (!s.free a b))) S) : cal T (n + 1) 198 [.d (.ref (L .k)), .d (.int a), .d (.int b)] S Q := by
  refine ⟨_, hT, rfl, rfl, ?_⟩
  generalize cal T n = c
  have gat := h.at_ .ats _ nofun rfl
  refine ⟨L .ats, _, gat, fun ho => ?_⟩
  have ek : (su S (L .ats) (.fdc (s.atts.map fun (e : Int × Att) => (.int e.1, .ref (L (.i e.1)))) ho)) (L .k) = some (topM L s.time) := (su_ne (h.ne (r := .k) (q := .ats) rfl rfl nofun)).trans (h.at_ .k _ nofun rfl)
  have ea : (su S (L .ats) (.fdc (s.atts.map fun (e : Int × Att) => (.int e.1, .ref (L (.i e.1)))) ho)) (L .ats) = some (.fdc (s.atts.map fun (e : Int × Att) => (.int e.1, .ref (L (.i e.1)))) ho) := su_same
  have ei : ∀ r o, r ≠ .pt a → objM L s r = some o → r ≠ .ats → (su S (L .ats) (.fdc (s.atts.map fun (e : Int × Att) => (.int e.1, .ref (L (.i e.1)))) ho)) (L r) = some o := fun r o n e z => (su_ne (h.ne (by rw [e]; rfl) rfl z)).trans (h.at_ r o n e)
  have back : su (su S (L .ats) (.fdc (s.atts.map fun (e : Int × Att) => (.int e.1, .ref (L (.i e.1)))) ho)) (L .ats) (.dic (s.atts.map fun (e : Int × Att) => (.int e.1, .ref (L (.i e.1))))) = S := by rw [su_su, su_id gat]
  generalize su S (L .ats) (.fdc (s.atts.map fun (e : Int × Att) => (.int e.1, .ref (L (.i e.1)))) ho) = S1 at ek ea ei back ⊢
  have old := iv.hold b hb
  walk_at "go"
  refine ⟨_, _, _, rfl, ea, ?_⟩
  refine forL_map' (fun (e : Int × Att) => D.int e.1) s.atts (by simp) (fun rest σ S2 => ∃ (pre : List (Int × Att)) (s3 s4 : Option Vx), s.atts = pre ++ rest ∧ σ = [some (.d (.ref (L .k))), some (.d (.int a)), some (.d (.int b)), s3, s4] ∧ S1 = S2 ∧ ∀ e ∈ pre, ¬ (e.1 ≠ a ∧ e.2.left ≠ [] ∧ (pget e.2.puts b).isSome)) ?_ ?_ ?_ _ _ ⟨[], _, _, rfl, rfl, rfl, nofun⟩
  · rintro l σ S2 ⟨pre, s3, s4, e, rfl, rfl, _⟩
    exact ea
  · rintro σ S2 ⟨pre, s3, s4, e, rfl, rfl, no⟩
    rw [List.append_nil] at e
    subst e
    refine ⟨ea, ?_⟩
    rw [back]
    have ef : s.free a b = true := by
      unfold Ks.free
      cases q : s.holders.getD b.toNat none with
      | none => rfl
      | some c =>
        obtain ⟨u, hu, h1, h2⟩ := (old c).mp q
        refine decide_eq_true (Classical.byContradiction fun z => no _ (pget_mem hu) ⟨z, h1, h2⟩)
    rw [ef] at w
    exact w
  · rintro e rest he _ kk σ S2 hk ⟨pre, s3, s4, epre, rfl, rfl, no⟩
    have hg := pget_of wf.an he
    have gi := ei (.i e.1) _ nofun (moi hg) nofun
    have gl := ei (.lf e.1) _ nofun (molf hg) nofun
    have gd := dat (L := L) hg
    have next : ¬ (e.1 ≠ a ∧ e.2.left ≠ [] ∧ (pget e.2.puts b).isSome) → kk [some (.d (.ref (L .k))), some (.d (.int a)), some (.d (.int b)), some (.d (.int e.1)), some (.d (.ref (L (.i e.1))))] S1 := fun z =>
      hk _ _ ⟨pre ++ [e], _, _, by rw [epre]; simp, rfl, rfl, fun x hx => by
        rcases List.mem_append.mp hx with hx | hx
        · exact no x hx
        · have : x = e := by simpa using hx
          rw [this]; exact z⟩
    refine ⟨_, rfl, ?_⟩
    walk_at "go"
    refine ⟨_, rfl, ⟨_, rfl, ⟨rfl, rfl, ?_⟩⟩⟩
    refine Br.mk (fun q1 => ?_) (fun q1 => Br.ff (next fun z => z.1 (by simpa [eqB] using q1)))
    have q1 : e.1 ≠ a := by simpa [eqB] using q1
    have gp := ei (.pt e.1) _ (fun z => q1 (by injection z)) (mopt hg) nofun
    walk_at "run"
    have el : (!eqBs (e.2.left.map D.int) []) = decide (e.2.left ≠ []) := by cases e.2.left <;> rfl
    rw [el]
    refine Br.mk (fun q2 => ?_) (fun q2 => Br.ff (next fun z => of_decide_eq_false q2 z.2.1))
    have q2 := of_decide_eq_true q2
    walk_at "run"
    rw [dhas_enc]
    refine Br.mk (fun q3 => ?_) (fun q3 => next fun z => by rw [q3] at z; exact absurd z.2.2 (by decide))
    refine ⟨ea, ?_⟩
    rw [back]
    have ef : s.free a b = false := by
      unfold Ks.free
      rw [(old e.1).mpr ⟨e.2, hg, q2, q3⟩]
      exact decide_eq_false q1
    rw [ef] at w
    exact w
theorem still_law_ok (h198 : T.fn 198 = some f_law_held) (hT : T.fn 199 = some f_law_still) (h : MAt S L s) (iv : Kinv s) (wf : Kwf N s) (ha : pget s.atts a = some t) (w : Q (.d (.bl (s.still a t))) S) : cal T (n + 2) 199 [.d (.ref (L .k)), .d (.int a)] S Q := by
  refine ⟨_, hT, rfl, rfl, ?_⟩
  have c1 := fun (b : Int) Q (hb : inR s b) => held_ok n (a := a) (Q := Q) h198 (h.rd a) iv wf hb
  generalize cal T (n + 1) = c at c1 ⊢
  have gk := h.gk
  have gat := h.gat
  have gi := h.gi ha
  have gl := h.glk ha
  have gm := h.gm
  have gd := dat (L := L) ha
  walk_at "go"
  walk_at "go"
  refine forL_map' D.int t.looked rfl (fun rest σ S2 => ∃ (pre : List Int) (s3 : Option Vx), t.looked = pre ++ rest ∧ σ = [some (.d (.ref (L .k))), some (.d (.int a)), some (.d (.ref (L (.i a)))), s3] ∧ S = S2 ∧ (pre.all fun b => s.free a b && decide (s.mark b ≤ t.glance)) = true) ?_ ?_ ?_ _ _ ⟨[], _, rfl, rfl, rfl, rfl⟩
  · rintro l σ S2 ⟨pre, s3, e, rfl, rfl, _⟩
    exact gl
  · rintro σ S2 ⟨pre, s3, e, rfl, rfl, all⟩
    rw [List.append_nil] at e
    rw [← e] at all
    unfold Ks.still at w
    rw [all] at w
    exact w
  · rintro x rest hx _ kk σ S2 hk ⟨pre, s3, epre, rfl, rfl, all⟩
    have hr := (wf.att a t ha).lk x hx
    have hg : getI (s.marks.map D.int) x = some (.int (s.mark x)) := getI_get hr.1 (by rw [wf.ml]; exact hr.2)
    have bad : (s.free a x && decide (s.mark x ≤ t.glance)) = false → Q (.d (.bl false)) S := fun e => by
      have : s.still a t = false := by
        unfold Ks.still
        rw [epre, List.all_append, List.all_cons, e]; simp
      rw [this] at w; exact w
    refine ⟨_, rfl, ?_⟩
    walk_at "run"
    refine c1 x _ hr ?_
    cases q1 : s.free a x with
    | false => exact Br.tt (Br.tt (bad (by rw [q1]; rfl)))
    | true =>
      refine Br.ff ?_
      walk_at "run"
      refine Br.mk (fun q2 => ?_) (fun q2 => ?_)
      · have q2 : t.glance < s.mark x := of_decide_eq_true q2
        exact bad (by rw [decide_eq_false (by omega)]; simp)
      · have q2 : ¬ t.glance < s.mark x := of_decide_eq_false q2
        refine hk _ _ ⟨pre ++ [x], _, by rw [epre]; simp, rfl, rfl, ?_⟩
        rw [List.all_append, all, List.all_cons, q1, decide_eq_true (show s.mark x ≤ t.glance by omega)]; rfl
end
end LU

/-! M3: the laws' own keeper: ends, looks. -/
namespace LU
open PySem L2 PySem.Spec PyProof.Rows DL LW
local macro_rules | `(tactic| walk_at "s1") => `(tactic| first | with_reducible refine one1_i ?_ | with_reducible refine storD ?_ | with_reducible refine storV ?_ | with_reducible refine storVd ?_ | with_reducible refine bxD ?_ | refine ⟨_, rfl, ?_⟩ | refine ⟨_, _, rfl, by assumption, ?_⟩ | refine ⟨_, _, _, rfl, by assumption, rfl, ?_⟩ | refine ⟨_, by assumption, ?_⟩ | refine ⟨rfl, ?_⟩ | refine ⟨.inl rfl, ?_⟩ | refine ⟨Nat.le_of_ble_eq_true rfl, ?_⟩)
local macro_rules | `(tactic| walk_at "go") => `(tactic| (walk_at "s1"; repeat ((fail_if_success with_reducible refine isS ?_); walk_at "s1")))
local macro_rules | `(tactic| walk_at "run") => `(tactic| repeat walk_at "s1")
section
variable {T : Tbl} (n : Nat) {N : Nat} {S : Hs} {L : Role → Addr} {s : Ks} {a b v : Int} {t : Att} {Q : VK2}
theorem ended_ok (hT : T.fn 201 = some f_law_ended) {word : List Nat} {told : D} (h : MAt S L s) (wf : Kwf N s) (hN : N ≤ 50000) (ha : pget s.atts a = some t) (w : ∀ S', MStep S L s S' L (s.ends a t word) → Q (.d told) S') :
    cal T (n + 1) 201 [.d (.ref (L .k)), .d (.int a), .d (.str word), .d told] S Q := by
  refine ⟨_, hT, rfl, rfl, ?_⟩
  generalize cal T n = c
  have gk := h.gk
  have gat := h.gat
  have gi := h.gi ha
  have gd := dat (L := L) ha
  walk_at "go"
  have st := h.ui ha { t with opn := false } rfl rfl rfl
  show DL.wpS T c _ _ (su S (L (.i a)) (objJ L a { t with opn := false })) _ _ _ _
  generalize su S (L (.i a)) (objJ L a { t with opn := false }) = S1 at st ⊢
  have gk := st.to.gk
  have ge := st.to.gev
  walk_at "go"
  refine ⟨Nat.lt_of_le_of_lt (Nat.le_trans wf.el hN) (by decide), ?_⟩
  walk_at "run"
  exact w _ (st.trans (st.to.uev _))
theorem look_law_ok (h198 : T.fn 198 = some f_law_held) (h199 : T.fn 199 = some f_law_still) (h201 : T.fn 201 = some f_law_ended) (hT : T.fn 202 = some f_law_look) (h : MAt S L s) (iv : Kinv s) (wf : Kwf N s) (hN : N ≤ 50000) (ha : pget s.atts a = some t) (hb : inR s b)
    (w : ∀ S', MStep S L s S' L (s.look a t b).1 → Q (.d (s.look a t b).2) S') : cal T (n + 3) 202 [.d (.ref (L .k)), .d (.int a), .d (.int b)] S Q := by
  refine ⟨_, hT, rfl, rfl, ?_⟩
  have c1 := fun Q => held_ok (n + 1) (a := a) (Q := Q) h198 (h.rd a) iv wf hb
  have c2 := fun Q => still_law_ok n (a := a) (Q := Q) h198 h199 h iv wf ha
  have c3 := fun Q => ended_ok (n + 1) (word := sFall) (told := rFalls) (Q := Q) h201 h wf hN ha
  generalize cal T (n + 2) = c at c1 c2 c3 ⊢
  have gk := h.gk
  have gat := h.gat
  have gi := h.gi ha
  have gl := h.glk ha
  have gp := h.gpt ha
  have gm := h.gm
  have gb := h.gb
  have gd := dat (L := L) ha
  have hg : getI (s.marks.map D.int) b = some (.int (s.mark b)) := getI_get hb.1 (by rw [wf.ml]; exact hb.2)
  have hbx : getI (s.boxes.map D.int) b = some (.int (s.box b)) := getI_get hb.1 hb.2
  have rest : ∀ S1 s1 v, MStep S L s S1 L s1 → s1.events = s.events → (∀ S', MStep S L s S' L (s1.evt (e4 sLook a b v)) → Q (.d (rNum v)) S') →
      DL.wpS T c (sqn 4 f_law_look.body) [some (.d (.ref (L .k))), some (.d (.int a)), some (.d (.int b)), some (.d (.ref (L (.i a)))), some (.d (.int v))] S1 (fun _ S' => Q (.d .non) S') Q (fun _ _ => False) (fun _ _ => False) := by
    intro S1 s1 v st hev k
    have gk := st.to.gk
    have ge := st.to.gev
    walk_at "go"
    refine ⟨by rw [hev]; exact Nat.lt_of_le_of_lt (Nat.le_trans wf.el hN) (by decide), ?_⟩
    walk_at "run"
    exact k _ (st.trans (st.to.uev _))
  walk_at "go"
  walk_at "go"
  walk_at "go"
  walk_at "run"
  rw [dhas_enc]
  unfold Ks.look at w
  cases hp : pget t.puts b with
  | some v =>
    rw [hp] at w
    have e0 : dget (encI D.int t.puts) (.int b) = some (.int v) := by rw [dget_enc, hp]; rfl
    refine Br.tt ?_
    walk_at "go"
    walk_at "go"
    exact rest S s v (MAt.refl h) rfl w
  | none =>
    rw [hp] at w
    dsimp only at w
    refine Br.ff ?_
    walk_at "run"
    refine c1 _ ?_
    have fin : s.wouldFall a t b = false → DL.wpS T c (.seq (.iff (.o2 .gt (.o2 .idx (.o2 .idx (.v 0) (.s [109, 97, 114, 107, 115])) (.v 2)) (.o2 .idx (.v 3) (.s [103, 108, 97, 110, 99, 101]))) (.seti (.v 3) (.s [103, 108, 97, 110, 99, 101]) (.o2 .idx (.v 0) (.s [99, 108, 111, 99, 107]))) .skip) (.expr (.hm .append (.o2 .idx (.v 3) (.s [108, 111, 111, 107, 101, 100])) (.consb (.v 2) .nil))))
        [some (.d (.ref (L .k))), some (.d (.int a)), some (.d (.int b)), some (.d (.ref (L (.i a)))), some (.d (.int (s.box b)))] S (fun σ' S' => DL.wpS T c (sqn 4 f_law_look.body) σ' S' (fun _ S' => Q (.d .non) S') Q (fun _ _ => False) (fun _ _ => False)) Q (fun _ _ => False) (fun _ _ => False) := by
      intro hw
      rw [hw, if_neg (by decide)] at w
      have app : ∀ S1 s1 t1, MStep S L s S1 L s1 → pget s1.atts a = some t1 → s1.events = s.events → t1.looked = t.looked → (∀ S', MStep S L s S' L ((s1.setA a { t1 with looked := t1.looked ++ [b] }).evt (e4 sLook a b (s.box b))) → Q (.d (rNum (s.box b))) S') →
          DL.wpS T c (.expr (.hm .append (.o2 .idx (.v 3) (.s [108, 111, 111, 107, 101, 100])) (.consb (.v 2) .nil))) [some (.d (.ref (L .k))), some (.d (.int a)), some (.d (.int b)), some (.d (.ref (L (.i a)))), some (.d (.int (s.box b)))] S1 (fun σ' S' => DL.wpS T c (sqn 4 f_law_look.body) σ' S' (fun _ S' => Q (.d .non) S') Q (fun _ _ => False) (fun _ _ => False)) Q (fun _ _ => False) (fun _ _ => False) := by
        intro S1 s1 t1 st h1 hev hlk k
        have gi := st.to.gi h1
        have gl := st.to.glk h1
        walk_at "go"
        refine ⟨by rw [List.length_map, hlk]; exact Nat.lt_of_le_of_lt (Nat.le_trans (wf.att a t ha).lkl hN) (by decide), ?_⟩
        walk_at "s1"
        walk_at "s1"
        have st2 := st.to.ulk h1 (t1.looked ++ [b])
        rw [List.map_append] at st2
        exact rest _ _ _ (st.trans st2) hev k
      walk_at "run"
      refine Br.mk (fun q => ?_) (fun q => ?_)
      · have q : t.glance < s.mark b := of_decide_eq_true q
        walk_at "go"
        have st := h.ui ha { t with glance := s.time } rfl rfl rfl
        refine app _ _ _ st setA_get rfl rfl fun S' st2 => w _ ?_
        rw [setA_setA ha] at st2
        rw [show t.glanced s b = { t with glance := s.time, looked := t.looked ++ [b] } by unfold Att.glanced; rw [if_pos q]]
        exact st2
      · have q : ¬ t.glance < s.mark b := of_decide_eq_false q
        refine app _ _ _ (MAt.refl h) ha rfl rfl fun S' st2 => w _ ?_
        rw [show t.glanced s b = { t with looked := t.looked ++ [b] } by unfold Att.glanced; rw [if_neg q]]
        exact st2
    have bad : s.wouldFall a t b = true → c 201 [.d (.ref (L .k)), .d (.int a), .d (.str sFall), .d rFalls] S (fun r S3 => one1 (fun x S1 => stor x (Q x S1)) [r] S3) := fun hw => by
      rw [hw, if_pos rfl] at w
      exact c3 _ fun S1 st => w _ st
    cases q1 : s.free a b with
    | false =>
      refine Br.tt (Br.tt ?_)
      walk_at "run"
      exact bad (by unfold Ks.wouldFall; rw [q1]; rfl)
    | true =>
      refine Br.ff ?_
      walk_at "run"
      refine Br.mk (fun q2 => ?_) (fun q2 => ?_)
      · have q2 : t.glance < s.mark b := of_decide_eq_true q2
        walk_at "run"
        refine c2 _ ?_
        cases q3 : s.still a t with
        | false =>
          refine Br.tt ?_
          walk_at "run"
          exact bad (by unfold Ks.wouldFall; rw [q1, q3, decide_eq_true q2]; rfl)
        | true =>
          refine Br.ff ?_
          exact fin (by unfold Ks.wouldFall; rw [q1, q3]; simp)
      · have q2 : ¬ t.glance < s.mark b := of_decide_eq_false q2
        refine Br.ff ?_
        exact fin (by unfold Ks.wouldFall; rw [q1, decide_eq_false q2]; rfl)
end
end LU

/-! M4: the laws' own keeper: takes, writes. -/
namespace LU
open PySem L2 PySem.Spec PyProof.Rows DL LW
local macro_rules | `(tactic| walk_at "s1") => `(tactic| first | with_reducible refine one1_i ?_ | with_reducible refine storD ?_ | with_reducible refine storV ?_ | with_reducible refine storVd ?_ | with_reducible refine bxD ?_ | refine ⟨_, rfl, ?_⟩ | refine ⟨_, _, rfl, by assumption, ?_⟩ | refine ⟨_, _, _, rfl, by assumption, rfl, ?_⟩ | refine ⟨_, by assumption, ?_⟩ | refine ⟨rfl, ?_⟩ | refine ⟨.inl rfl, ?_⟩ | refine ⟨Nat.le_of_ble_eq_true rfl, ?_⟩)
local macro_rules | `(tactic| walk_at "go") => `(tactic| (walk_at "s1"; repeat ((fail_if_success with_reducible refine isS ?_); walk_at "s1")))
local macro_rules | `(tactic| walk_at "run") => `(tactic| repeat walk_at "s1")

section
variable {S : Hs} {L : Role → Addr} {s : Ks} {a : Int} {t : Att}
/-- a new list of what is left -/
theorem MAt.nlf (h : MAt S L s) (ha : pget s.atts a = some t) {x : Addr} (hx : S x = none) (l : List Int) :
    MStep S L s (su (su S x (.lst (l.map D.int))) (L (.i a)) (.dic [(.str kGlance, .int t.glance), (.str kLooked, .ref (L (.lk a))), (.str kPuts, .ref (L (.pt a))), (.str kLeft, .ref x), (.str kStamp, .int (stampM t)), (.str kOpen, .bl t.opn)])) (mv L (.lf a) x) (s.setA a { t with left := l }) := by
  have eo : objJ (mv L (.lf a) x) a { t with left := l } = .dic [(.str kGlance, .int t.glance), (.str kLooked, .ref (L (.lk a))), (.str kPuts, .ref (L (.pt a))), (.str kLeft, .ref x), (.str kStamp, .int (stampM t)), (.str kOpen, .bl t.opn)] := by
    unfold objJ
    rw [mv_same, mv_ne (fun q => by cases q), mv_ne (fun q => by cases q)]; rfl
  rw [← eo]
  obtain ⟨e1, e2, e3⟩ := objM_setA (L := mv L (.lf a) x) ha { t with left := l }
  have m : ∀ r, r ≠ .lf a → mv L (.lf a) x r = L r := fun r z => mv_ne z
  refine ⟨At.move h (.lf a) (.i a) hx (by rw [moi ha]; rfl) (fun q => by cases q) (fun r z1 z2 => ?_) ?_ ?_, mv_ne (fun q => by cases q)⟩
  · cases r with
    | i b =>
      have q : b ≠ a := fun q => z2 (by rw [q])
      show (pget (s.setA a _).atts b).map _ = (pget s.atts b).map _
      rw [e2 b q]
      cases pget s.atts b with
      | none => rfl
      | some u =>
        show some (objJ _ b u) = some (objJ _ b u)
        unfold objJ
        rw [m (.lk b) (fun q => by cases q), m (.pt b) (fun q => by cases q), m (.lf b) (fun z => q (by cases z; rfl))]
    | lk b =>
      show (pget (s.setA a _).atts b).map _ = (pget s.atts b).map _
      by_cases q : b = a
      · subst q; rw [e3, ha]; rfl
      · rw [e2 b q]
    | pt b =>
      show (pget (s.setA a _).atts b).map _ = (pget s.atts b).map _
      by_cases q : b = a
      · subst q; rw [e3, ha]; rfl
      · rw [e2 b q]
    | lf b =>
      have q : b ≠ a := fun q => z1 (by rw [q])
      show (pget (s.setA a _).atts b).map _ = (pget s.atts b).map _
      rw [e2 b q]
    | ats =>
      rw [e1 _ (fun b => ⟨(by intro q; cases q), (by intro q; cases q), (by intro q; cases q), (by intro q; cases q)⟩)]
      rfl
    | _ =>
      rw [e1 _ (fun b => ⟨(by intro q; cases q), (by intro q; cases q), (by intro q; cases q), (by intro q; cases q)⟩)]
      rfl
  · show (pget (s.setA a _).atts a).map _ = _
    rw [e3]; rfl
  · show (pget (s.setA a _).atts a).map _ = _
    rw [e3]; rfl
end
section
variable {S S1 : Hs} {L : Role → Addr} {s : Ks} {a : Int} {x l p f : Addr}
theorem MAt.begun (h : MAt S L s) (ha : pget s.atts a = none) {t0 : Att} (ht : t0.looked = [] ∧ t0.puts = [] ∧ t0.left = []) (hx : S1 x = some (.dic [(.str kGlance, .int t0.glance), (.str kLooked, .ref l), (.str kPuts, .ref p), (.str kLeft, .ref f), (.str kStamp, .int (stampM t0)), (.str kOpen, .bl t0.opn)])) (hl : S1 l = some (.lst [])) (hp : S1 p = some (.dic [])) (hf : S1 f = some (.lst []))
    (nx : S x = none) (nl : S l = none) (np : S p = none) (nf : S f = none) (xl : x ≠ l) (xp : x ≠ p) (xf : x ≠ f) (lp : l ≠ p) (lf : l ≠ f) (pf : p ≠ f) (fr : ∀ b o, S b = some o → S1 b = some o) :
    MStep S L s (su S1 (L .ats) (.dic ((s.atts.map fun e => (D.int e.1, D.ref (L (.i e.1)))) ++ [(.int a, .ref x)]))) (newL L a x l p f) { s with atts := pput s.atts a t0 } := by
  have hput : pput s.atts a t0 = s.atts ++ [(a, t0)] := pput_new ha
  have eA : newL L a x l p f .ats = L .ats := newL_ne ⟨nofun, nofun, nofun, nofun⟩
  let s' : Ks := { s with atts := pput s.atts a t0 }
  have ga : pget s'.atts a = some t0 := by show pget (pput s.atts a t0) a = _; rw [pget_put, if_pos rfl]
  have gb : ∀ b, b ≠ a → pget s'.atts b = pget s.atts b := fun b q => by show pget (pput s.atts a t0) b = _; rw [pget_put, if_neg fun z => q z.symm]
  have oI : objM (newL L a x l p f) s' (.i a) = some (.dic [(.str kGlance, .int t0.glance), (.str kLooked, .ref l), (.str kPuts, .ref p), (.str kLeft, .ref f), (.str kStamp, .int (stampM t0)), (.str kOpen, .bl t0.opn)]) := by
    rw [moi ga]; unfold objJ; rw [newL_lk, newL_pt, newL_lf]
  have oL : objM (newL L a x l p f) s' (.lk a) = some (.lst []) := by rw [molk ga, ht.1]; rfl
  have oP : objM (newL L a x l p f) s' (.pt a) = some (.dic []) := by rw [mopt ga, ht.2.1]; rfl
  have oF : objM (newL L a x l p f) s' (.lf a) = some (.lst []) := by rw [molf ga, ht.2.2]; rfl
  have st1 : Step S L (objM L s) S1 (newL L a x l p f) (fun r => if isNew a r = true then objM (newL L a x l p f) s' r else objM L s r) := by
    refine At.ext h (fun r => isNew a r = true) (fun r z => ?_) fr (fun r o z e => ?_) (fun r q z1 z2 _ _ e => ?_)
    · have z : isNew a r = false := by simpa using z
      refine ⟨newL_ne (isNew_f z), ?_⟩
      rw [z]; rfl
    · rw [if_pos z] at e
      rcases isNew_t z with rfl | rfl | rfl | rfl
      · rw [oI] at e; cases e; rw [newL_i]; exact ⟨hx, nx⟩
      · rw [oL] at e; cases e; rw [newL_lk]; exact ⟨hl, nl⟩
      · rw [oP] at e; cases e; rw [newL_pt]; exact ⟨hp, np⟩
      · rw [oF] at e; cases e; rw [newL_lf]; exact ⟨hf, nf⟩
    · rcases isNew_t z1 with rfl | rfl | rfl | rfl <;> rcases isNew_t z2 with rfl | rfl | rfl | rfl <;> first | rfl | (simp only [newL_i, newL_lk, newL_pt, newL_lf] at e; first | exact (xl e).elim | exact (xl e.symm).elim | exact (xp e).elim | exact (xp e.symm).elim | exact (xf e).elim | exact (xf e.symm).elim | exact (lp e).elim | exact (lp e.symm).elim | exact (lf e).elim | exact (lf e.symm).elim | exact (pf e).elim | exact (pf e.symm).elim)
  have old : ∀ r, isNew a r = false → r ≠ .ats → objM (newL L a x l p f) s' r = objM L s r := fun r z q => by
    have z := isNew_f z
    cases r with
    | i b =>
      have hb : b ≠ a := fun q => z.1 (by rw [q])
      show (pget s'.atts b).map _ = (pget s.atts b).map _
      rw [gb b hb]
      cases pget s.atts b with
      | none => rfl
      | some u =>
        show some (objJ _ b u) = some (objJ _ b u)
        unfold objJ
        rw [newL_ne (r := .lk b) ⟨nofun, fun q => hb (by cases q; rfl), nofun, nofun⟩, newL_ne (r := .pt b) ⟨nofun, nofun, fun q => hb (by cases q; rfl), nofun⟩, newL_ne (r := .lf b) ⟨nofun, nofun, nofun, fun q => hb (by cases q; rfl)⟩]
    | lk b =>
      have hb : b ≠ a := fun q => z.2.1 (by rw [q])
      show (pget s'.atts b).map _ = (pget s.atts b).map _
      rw [gb b hb]
    | pt b =>
      have hb : b ≠ a := fun q => z.2.2.1 (by rw [q])
      show (pget s'.atts b).map _ = (pget s.atts b).map _
      rw [gb b hb]
    | lf b =>
      have hb : b ≠ a := fun q => z.2.2.2 (by rw [q])
      show (pget s'.atts b).map _ = (pget s.atts b).map _
      rw [gb b hb]
    | ats => exact (q rfl).elim
    | k =>
      show some (topM _ _) = some (topM _ _)
      unfold topM
      rw [newL_ne (r := .bx) ⟨nofun, nofun, nofun, nofun⟩, newL_ne (r := .mk) ⟨nofun, nofun, nofun, nofun⟩, newL_ne (r := .ats) ⟨nofun, nofun, nofun, nofun⟩, newL_ne (r := .ev) ⟨nofun, nofun, nofun, nofun⟩]
    | _ => rfl
  have st2 := At.upd (ob' := objM (newL L a x l p f) s') st1.to .ats (o := .dic ((s.atts.map fun e => (D.int e.1, D.ref (L (.i e.1)))) ++ [(.int a, .ref x)])) rfl (fun r z => ?_) ?_
  · rw [eA] at st2
    exact ⟨st1.trans st2, newL_ne ⟨nofun, nofun, nofun, nofun⟩⟩
  · by_cases q : isNew a r = true
    · rw [if_pos q]
    · rw [if_neg q]
      exact old r (by simpa using q) z
  · show some (O.dic ((pput s.atts a t0).map fun (e : Int × Att) => (D.int e.1, D.ref (newL L a x l p f (.i e.1))))) = _
    rw [hput, List.map_append]
    congr 2
    · congr 1
      · refine List.map_congr_left fun e he => ?_
        have hb : e.1 ≠ a := pget_none.mp ha e he
        rw [newL_ne (r := .i e.1) ⟨fun q => hb (by injection q), nofun, nofun, nofun⟩]
      · show [(D.int a, D.ref (newL L a x l p f (.i a)))] = _
        rw [newL_i]
end
theorem anyNot {α : Type} (l : List α) (p : α → Bool) : (l.map fun b => !p b).any id = !(l.all p) := by
  induction l with
  | nil => rfl
  | cons x l ih => rw [List.map_cons, List.any_cons, ih, List.all_cons]; cases p x <;> simp
theorem objM_holds (L : Role → Addr) (s : Ks) (l : List Int) (o : Option Int) : objM L (s.holds l o) = objM L s := by
  funext r
  cases r <;> rfl
theorem MStep.holds {S S' : Hs} {L L' : Role → Addr} {s s' : Ks} (h : MStep S L s S' L' s') (l : List Int) (o : Option Int) : MStep S L s S' L' (s'.holds l o) := ⟨by rw [objM_holds]; exact h.st, h.k⟩
theorem MStep.holds0 {S S' : Hs} {L L' : Role → Addr} {s s' : Ks} {l : List Int} {o : Option Int} (h : MStep S L (s.holds l o) S' L' s') : MStep S L s S' L' s' := ⟨by have := h.st; rw [objM_holds] at this; exact this, h.k⟩
section
variable {T : Tbl} (n : Nat) {N : Nat} {S : Hs} {L : Role → Addr} {s : Ks} {a b v : Int} {t : Att} {Q : VK2}
theorem take_law_ok (h198 : T.fn 198 = some f_law_held) (h199 : T.fn 199 = some f_law_still) (h201 : T.fn 201 = some f_law_ended) (hT : T.fn 203 = some f_law_take_2) (h : MAt S L s) (iv : Kinv s) (wf : Kwf N s) (hN : N ≤ 50000) (ha : pget s.atts a = some t)
    (w : ∀ S' L', MStep S L s S' L' (s.take a t).1 → Q (.d (s.take a t).2) S') : cal T (n + 3) 203 [.d (.ref (L .k)), .d (.int a)] S Q := by
  refine ⟨_, hT, rfl, rfl, ?_⟩
  have c1 := fun (S : Hs) (b : Int) Q (h : MRd a S L s) (hb : inR s b) => held_ok (n + 1) (a := a) (b := b) (Q := Q) h198 h iv wf hb
  have c2 := fun Q => still_law_ok n (a := a) (Q := Q) h198 h199 h iv wf ha
  have c3 := fun Q w d => ended_ok (n + 1) (word := w) (told := d) (Q := Q) h201 h wf hN ha
  generalize cal T (n + 2) = c at c1 c2 c3 ⊢
  have gk := h.gk
  have gat := h.gat
  have gi := h.gi ha
  have gp := h.gpt ha
  have gd := dat (L := L) ha
  walk_at "go"
  walk_at "run"
  unfold Ks.take at w
  have ee : (encI D.int t.puts).isEmpty = decide (t.puts = []) := by cases t.puts <;> rfl
  rw [ee]
  by_cases q1 : t.puts = []
  · rw [if_pos q1] at w
    rw [decide_eq_true q1]
    refine Br.tt ?_
    walk_at "run"
    exact c3 _ _ _ fun S1 st => w _ _ st
  rw [if_neg q1] at w
  rw [decide_eq_false q1]
  refine Br.ff ?_
  walk_at "run"
  refine c2 _ ?_
  have bad : s.canTake a t = false → c 201 [.d (.ref (L .k)), .d (.int a), .d (.str sFall), .d (.str sFalls)] S (fun r S3 => one1 (fun x S1 => stor x (Q x S1)) [r] S3) := fun q => by
    rw [q, if_neg (by decide)] at w
    exact c3 _ _ _ fun S1 st => w _ _ st
  cases q2 : s.still a t with
  | false =>
    refine Br.tt (Br.tt ?_)
    walk_at "run"
    exact bad (by unfold Ks.canTake; rw [q2]; rfl)
  | true =>
    refine Br.ff ?_
    refine ⟨L (.pt a), _, gp, fun ho => ?_⟩
    have h2 := h.lockP ha (.fdc (encI D.int t.puts) ho)
    have ep : (su S (L (.pt a)) (.fdc (encI D.int t.puts) ho)) (L (.pt a)) = some (.fdc (encI D.int t.puts) ho) := su_same
    have ei : (su S (L (.pt a)) (.fdc (encI D.int t.puts) ho)) (L (.i a)) = some (objJ L a t) := h2.at_ (.i a) _ nofun (moi ha)
    have back : su (su S (L (.pt a)) (.fdc (encI D.int t.puts) ho)) (L (.pt a)) (.dic (encI D.int t.puts)) = S := by rw [su_su, su_id gp]
    generalize su S (L (.pt a)) (.fdc (encI D.int t.puts) ho) = S1 at h2 ep ei back ⊢
    walk_at "run"
    refine ⟨_, _, _, rfl, ep, ?_⟩
    refine compL_fm' D.int (fun b => some (.bl (!s.free a b))) t.keys (by simp [encI, Att.keys]) ep (fun b hb P1 P2 h1 _ => ?_) ?_ ?_
    · have hr : inR s b := by
        obtain ⟨p, hp, rfl⟩ := List.mem_map.mp hb
        exact (wf.att a t ha).pt p hp
      refine Br.tt ?_
      walk_at "run"
      exact c1 _ _ _ h2 hr (h1 _ rfl)
    · unfold Att.keys
      rw [List.length_map]
      exact Nat.le_trans (wf.att a t ha).ptl (Nat.le_trans hN (by decide))
    · refine ⟨ep, ?_⟩
      rw [back]
      refine ⟨_, t.keys.map fun b => !s.free a b, rfl, by rw [List.map_map, List.filterMap_eq_map']; rfl, ?_⟩
      have e : (t.keys.map fun b => !s.free a b).any id = !(t.keys.all (s.free a)) := by
        exact anyNot t.keys (s.free a)
      rw [e]
      refine Br.mk (fun q3 => ?_) (fun q3 => ?_)
      · walk_at "run"
        exact bad (by unfold Ks.canTake; rw [q2]; simpa using q3)
      · have q3 : t.keys.all (s.free a) = true := by simpa using q3
        have q4 : s.canTake a t = true := by unfold Ks.canTake; rw [q2, q3]; rfl
        rw [q4, if_pos rfl] at w
        walk_at "go"
        have st1 := h.utm (s.time + 1)
        show DL.wpS T c _ _ (su S (L .k) (topM L (s.time + 1))) _ _ _ _
        generalize su S (L .k) (topM L (s.time + 1)) = S1 at st1 ⊢
        have gk := st1.to.gk
        have gi := st1.to.gi (t := t) ha
        walk_at "go"
        have st2 := st1.to.ui (t := t) ha { t with stamp := some (s.time + 1) } rfl rfl rfl
        show DL.wpS T c _ _ (su S1 (L (.i a)) (objJ L a { t with stamp := some (s.time + 1) })) _ _ _ _
        generalize su S1 (L (.i a)) (objJ L a { t with stamp := some (s.time + 1) }) = S2 at st2 ⊢
        have st2 := st1.trans st2
        have gi := st2.to.gi setA_get
        have gp := st2.to.gpt setA_get
        refine ⟨_, rfl, ⟨_, gi, ⟨rfl, ⟨_, rfl, ⟨_, gp, t.keys, .inr ⟨_, rfl, by simp [encI, Att.keys], keys_len wf ha⟩, fun ns hp hw => ?_⟩⟩⟩⟩⟩
        have en := srt_eq hp hw
        subst en
        intro x hx
        have nx : L (.i a) ≠ x := fun q => by rw [← q, gi] at hx; cases hx
        have gi3 : (su S2 x (.lst ((srt t.keys).map D.int))) (L (.i a)) = some (objJ L a { t with stamp := some (s.time + 1) }) := by rw [su_ne nx]; exact gi
        walk_at "go"
        have st3 := st2.to.nlf setA_get hx (srt t.keys)
        have st3 := st2.trans st3
        rw [setA_setA (s := { s with time := s.time + 1 }) (t := t) ha] at st3
        have st3 : MStep S L s (su (su S2 x (.lst ((srt t.keys).map D.int))) (L (.i a)) (.dic [(.str kGlance, .int t.glance), (.str kLooked, .ref (L (.lk a))), (.str kPuts, .ref (L (.pt a))), (.str kLeft, .ref x), (.str kStamp, .int (s.time + 1)), (.str kOpen, .bl t.opn)])) (mv L (.lf a) x) (({ s with time := s.time + 1 } : Ks).setA a { t with stamp := some (s.time + 1), left := srt t.keys }) := st3
        show DL.wpS T c _ _ (su (su S2 x (.lst ((srt t.keys).map D.int))) (L (.i a)) (.dic [(.str kGlance, .int t.glance), (.str kLooked, .ref (L (.lk a))), (.str kPuts, .ref (L (.pt a))), (.str kLeft, .ref x), (.str kStamp, .int (s.time + 1)), (.str kOpen, .bl t.opn)])) _ _ _ _
        exact w _ _ (st3.holds _ _)
theorem write_law_ok (h201 : T.fn 201 = some f_law_ended) (hT : T.fn 204 = some f_law_write) (h : MAt S L s) (wf : Kwf N s) (hN : N ≤ 50000) (ha : pget s.atts a = some t) {z : Int} (hs : t.stamp = some z) {r : List Int} (hl : t.left = b :: r)
    (w : ∀ S', MStep S L s S' L (s.write a t).1 → Q (.d (s.write a t).2) S') : cal T (n + 2) 204 [.d (.ref (L .k)), .d (.int a)] S Q := by
  refine ⟨_, hT, rfl, rfl, ?_⟩
  have w0 := wf.att a t ha
  have hb := w0.lf b (by rw [hl]; exact List.mem_cons_self)
  obtain ⟨v, hv⟩ := Option.isSome_iff_exists.mp hb.2
  have wf2 := wf.wrote (b := b) ha (r := r) (fun x hx => by rw [hl]; exact List.mem_cons_of_mem _ hx)
  have wf2 := wf2.holds t.keys none
  have c3 := fun (S : Hs) Q h => ended_ok n (word := sDone) (told := .str sDone) (S := S) (L := L) (Q := Q) (a := a) (t := { t with left := r }) h201 h wf2 hN setA_get
  generalize cal T (n + 1) = c at c3 ⊢
  have gk := h.gk
  have gat := h.gat
  have gi := h.gi ha
  have gl := h.glf ha
  have gd := dat (L := L) ha
  rw [hl] at gl
  walk_at "go"
  walk_at "go"
  have st1 := h.ulf ha r
  show DL.wpS T c _ _ (su S (L (.lf a)) (.lst (r.map D.int))) _ _ _ _
  generalize su S (L (.lf a)) (.lst (r.map D.int)) = S1 at st1 ⊢
  have gk1 := st1.to.gk
  have gi1 := st1.to.gi setA_get
  have gp1 := st1.to.gpt setA_get
  have gb1 : S1 (L .bx) = some (.lst (s.boxes.map D.int)) := st1.to.at_ .bx _ rfl
  have e1 : dget (encI D.int t.puts) (.int b) = some (.int v) := by rw [dget_enc, hv]; rfl
  walk_at "run"
  refine setI_ints hb.1.1 hb.1.2 ?_
  walk_at "s1"
  have st2 := st1.to.ubx (s.boxes.set b.toNat v)
  show DL.wpS T c _ _ (su S1 (L .bx) (.lst ((s.boxes.set b.toNat v).map D.int))) _ _ _ _
  generalize su S1 (L .bx) (.lst ((s.boxes.set b.toNat v).map D.int)) = S2 at st2 ⊢
  have gk2 := st2.to.gk
  have gi2 := st2.to.gi setA_get
  have gm2 : S2 (L .mk) = some (.lst (s.marks.map D.int)) := st2.to.at_ .mk _ rfl
  walk_at "run"
  refine setI_ints hb.1.1 (by rw [wf.ml]; exact hb.1.2) ?_
  walk_at "s1"
  have e6 : stampM t = z := by unfold stampM; rw [hs]; rfl
  have e6' : stampM { t with left := r } = z := e6
  rw [e6']
  have st3 := st2.to.umk (s.marks.set b.toNat z)
  show DL.wpS T c _ _ (su S2 (L .mk) (.lst ((s.marks.set b.toNat z).map D.int))) _ _ _ _
  generalize su S2 (L .mk) (.lst ((s.marks.set b.toNat z).map D.int)) = S3 at st3 ⊢
  have st3 : MStep S L s S3 L (s.wrote a t b r) := by
    have := (st1.trans st2).trans st3
    have e5 : (pget t.puts b).getD 0 = v := by rw [hv]; rfl
    have e6 : t.stamp.getD 0 = z := by rw [hs]; rfl
    unfold Ks.wrote
    rw [e5, e6]
    exact this
  have gk3 := st3.to.gk
  have gi3 := st3.to.gi setA_get
  have gl3 := st3.to.glf setA_get
  walk_at "run"
  unfold Ks.write at w
  rw [hl] at w
  dsimp only at w
  have er : (!eqBs (r.map D.int) []) = decide (¬ r = []) := by cases r <;> rfl
  rw [er]
  refine Br.mk (fun q => ?_) (fun q => ?_)
  · have q : ¬ r = [] := of_decide_eq_true q
    rw [if_neg q] at w
    exact w _ st3
  · have q : r = [] := Classical.byContradiction fun z => by rw [decide_eq_true z] at q; cases q
    rw [if_pos q] at w
    walk_at "run"
    exact c3 _ _ (st3.holds t.keys none).to fun S5 st5 => w _ ((st3.holds t.keys none).trans st5)
end
end LU

/-! M5: the laws' own keeper: a call. -/
namespace LU
open PySem L2 PySem.Spec PyProof.Rows DL LW
local macro_rules | `(tactic| walk_at "s1") => `(tactic| first | with_reducible refine one1_i ?_ | with_reducible refine storD ?_ | with_reducible refine storV ?_ | with_reducible refine storVd ?_ | with_reducible refine bxD ?_ | refine ⟨_, rfl, ?_⟩ | refine ⟨_, _, rfl, by assumption, ?_⟩ | refine ⟨_, _, _, rfl, by assumption, rfl, ?_⟩ | refine ⟨_, by assumption, ?_⟩ | refine ⟨rfl, ?_⟩ | refine ⟨.inl rfl, ?_⟩ | refine ⟨Nat.le_of_ble_eq_true rfl, ?_⟩)
local macro_rules | `(tactic| walk_at "go") => `(tactic| (walk_at "s1"; repeat ((fail_if_success with_reducible refine isS ?_); walk_at "s1")))
local macro_rules | `(tactic| walk_at "run") => `(tactic| repeat walk_at "s1")
structure MdT (T : Tbl) : Prop where
  f198 : T.fn 198 = some f_law_held
  f199 : T.fn 199 = some f_law_still
  f201 : T.fn 201 = some f_law_ended
  f202 : T.fn 202 = some f_law_look
  f203 : T.fn 203 = some f_law_take_2
  f204 : T.fn 204 = some f_law_write
theorem neB {b : Bool} {P : Prop} (h : b = true → P) (k : b = false → P) : P := by cases b; exact k rfl; exact h rfl
section
variable {T : Tbl} (mt : MdT T) (n : Nat) {N : Nat} {S : Hs} {L : Role → Addr} {s : Ks} {a b v : Int} {t : Att} {Q : VK2}
include mt
theorem call_ok (hT : T.fn 205 = some f_law_call) (h : MAt S L s) (iv : Kinv s) (wf : Kwf N s) (hN : N ≤ 50000) {k : Cl} (fit : k.fit s)
    (w : ∀ S' L', MStep S L s S' L' (s.step k).1 → Q (.d (s.step k).2) S') : cal T (n + 4) 205 [.d (.ref (L .k)), .d k.d] S Q := by
  refine ⟨_, hT, rfl, rfl, ?_⟩
  have c1 := fun (a : Int) (w : List Nat) (t : Att) (d : D) Q ha => ended_ok (n + 2) (word := w) (told := d) (a := a) (t := t) (Q := Q) mt.f201 h wf hN ha
  have c2 := fun (a b : Int) (t : Att) Q ha hb => look_law_ok n (a := a) (t := t) (b := b) (Q := Q) mt.f198 mt.f199 mt.f201 mt.f202 h iv wf hN ha hb
  have c3 := fun (a : Int) (t : Att) Q ha => take_law_ok n (a := a) (t := t) (Q := Q) mt.f198 mt.f199 mt.f201 mt.f203 h iv wf hN ha
  have c4 := fun (a : Int) (t : Att) (z b : Int) (r : List Int) Q ha => write_law_ok (n + 1) (a := a) (t := t) (z := z) (b := b) (r := r) (Q := Q) mt.f201 mt.f204 h wf hN ha
  generalize cal T (n + 3) = c at c1 c2 c3 c4 ⊢
  have gk := h.gk
  have gat := h.gat
  have op : ∀ (a : Int) (t : Att) (kw : List Nat) (x : D) (W : Bool), pget s.atts a = some t → t.opn = true → eqB (.str kw) (.str sBegin) = false → pln (.str kw) = true → (decide (stampM t ≥ 0) = W) → eqB (.str kw) (.str sWrite) = W →
      DL.wpS T c (sqn 4 f_law_call.body) [some (.d (.ref (L .k))), some (.d x), some (.d (.str kw)), some (.d (.int a))] S (fun _ S' => Q (.d .non) S') Q (fun _ _ => False) (fun _ _ => False) →
      DL.wpS T c (sqn 1 f_law_call.body) [some (.d (.ref (L .k))), some (.d x), some (.d (.str kw)), some (.d (.int a))] S (fun _ S' => Q (.d .non) S') Q (fun _ _ => False) (fun _ _ => False) := by
    intro a t kw x W ha ho hk hp hst hwr k
    have gi := h.gi ha
    have gd := dat (L := L) ha
    unfold objJ at gi
    rw [ho] at gi
    walk_at "run"
    refine ⟨hp, rfl, ?_⟩
    rw [hk]
    refine Br.ff ?_
    walk_at "run"
    rw [dhas_ats, ha]
    refine Br.ff ?_
    walk_at "run"
    refine Br.ff ?_
    walk_at "run"
    refine ⟨hp, rfl, ?_⟩
    rw [hwr]
    refine ⟨rfl, rfl, ?_⟩
    have hst : decide ((0 : Int) ≤ stampM t) = W := hst
    show Br (!(decide ((0 : Int) ≤ stampM t) == W)) _ _
    rw [hst]
    have e : (!(W == W)) = false := by cases W <;> rfl
    rw [e]
    exact Br.ff k
  have none0 : ∀ t : Att, t.stamp = none → decide (stampM t ≥ 0) = false := fun t e => by unfold stampM; rw [e]; rfl
  cases k with
  | begin a =>
    have ha : pget s.atts a = none := fit
    walk_at "go"
    walk_at "run"
    refine Br.tt ?_
    walk_at "run"
    rw [dhas_ats, ha]
    refine Br.ff ?_
    walk_at "run"
    intro l hl
    walk_at "run"
    intro p hp
    walk_at "run"
    intro f hf
    walk_at "run"
    intro x hx
    have lp : l ≠ p := fun q => by rw [← q, su_same] at hp; cases hp
    have pf : p ≠ f := fun q => by rw [← q, su_same] at hf; cases hf
    have lf : l ≠ f := fun q => by rw [← q, su_ne lp, su_same] at hf; cases hf
    have xf : x ≠ f := fun q => by rw [q, su_same] at hx; cases hx
    have xp : x ≠ p := fun q => by rw [q, su_ne pf, su_same] at hx; cases hx
    have xl : x ≠ l := fun q => by rw [q, su_ne lf, su_ne lp, su_same] at hx; cases hx
    rw [su_ne lp.symm] at hp
    rw [su_ne pf.symm, su_ne lf.symm] at hf
    rw [su_ne xf, su_ne xp, su_ne xl] at hx
    have nn : ∀ b o y, S b = some o → S y = none → b ≠ y := fun b o y e n q => by rw [q, n] at e; cases e
    have fr : ∀ b o, S b = some o → (su (su (su (su S l (.lst [])) p (.dic [])) f (.lst [])) x (objJ (newL L a x l p f) a ⟨s.time, [], [], [], none, true⟩)) b = some o := fun b o e => by
      rw [su_ne (nn b o x e hx), su_ne (nn b o f e hf), su_ne (nn b o p e hp), su_ne (nn b o l e hl)]; exact e
    have kx : (su (su (su (su S l (.lst [])) p (.dic [])) f (.lst [])) x (objJ (newL L a x l p f) a ⟨s.time, [], [], [], none, true⟩)) x = some (objJ (newL L a x l p f) a ⟨s.time, [], [], [], none, true⟩) := su_same
    have kl : (su (su (su (su S l (.lst [])) p (.dic [])) f (.lst [])) x (objJ (newL L a x l p f) a ⟨s.time, [], [], [], none, true⟩)) l = some (.lst []) := by rw [su_ne xl.symm, su_ne lf, su_ne lp, su_same]
    have kp : (su (su (su (su S l (.lst [])) p (.dic [])) f (.lst [])) x (objJ (newL L a x l p f) a ⟨s.time, [], [], [], none, true⟩)) p = some (.dic []) := by rw [su_ne xp.symm, su_ne pf, su_same]
    have kf : (su (su (su (su S l (.lst [])) p (.dic [])) f (.lst [])) x (objJ (newL L a x l p f) a ⟨s.time, [], [], [], none, true⟩)) f = some (.lst []) := by rw [su_ne xf.symm, su_same]
    have eo : objJ (newL L a x l p f) a ⟨s.time, [], [], [], none, true⟩ = .dic [(.str kGlance, .int s.time), (.str kLooked, .ref l), (.str kPuts, .ref p), (.str kLeft, .ref f), (.str kStamp, .int (-1)), (.str kOpen, .bl true)] := by
      unfold objJ
      rw [newL_lk, newL_pt, newL_lf]; rfl
    rw [eo] at fr kx kl kp kf
    have em : mrgD [] [(D.str kGlance, D.int s.time), (D.str kLooked, D.ref l), (D.str kPuts, D.ref p), (D.str kLeft, D.ref f), (D.str kStamp, D.int (-1)), (D.str kOpen, D.bl true)] = [(.str kGlance, .int s.time), (.str kLooked, .ref l), (.str kPuts, .ref p), (.str kLeft, .ref f), (.str kStamp, .int (-1)), (.str kOpen, .bl true)] := rfl
    rw [em]
    generalize su (su (su (su S l (.lst [])) p (.dic [])) f (.lst [])) x (.dic [(.str kGlance, .int s.time), (.str kLooked, .ref l), (.str kPuts, .ref p), (.str kLeft, .ref f), (.str kStamp, .int (-1)), (.str kOpen, .bl true)]) = S1 at fr kx kl kp kf ⊢
    have gk1 := fr _ _ gk
    have ga1 := fr _ _ gat
    walk_at "run"
    refine ⟨?_, ?_⟩
    · rw [List.length_map]
      exact Nat.lt_of_le_of_lt (Nat.le_trans wf.al hN) (by decide)
    walk_at "s1"
    have ed : dput (s.atts.map fun (e : Int × Att) => (D.int e.1, D.ref (L (.i e.1)))) (.int a) (.ref x) = (s.atts.map fun (e : Int × Att) => (D.int e.1, D.ref (L (.i e.1)))) ++ [(.int a, .ref x)] := by
      unfold dput
      rw [dhas_ats, ha]; rfl
    rw [ed]
    have st := h.begun ha (t0 := ⟨s.time, [], [], [], none, true⟩) ⟨rfl, rfl, rfl⟩ kx kl kp kf hx hl hp hf xl xp xf lp lf pf fr
    generalize su S1 (L .ats) (.dic ((s.atts.map fun e => (D.int e.1, D.ref (L (.i e.1)))) ++ [(.int a, .ref x)])) = S2 at st ⊢
    generalize newL L a x l p f = L2 at st
    have gk2 := st.to.gk
    rw [st.k] at gk2
    have ge := st.to.gev
    have el : s.events.length < sizeLine := Nat.lt_of_le_of_lt (Nat.le_trans wf.el hN) (by decide)
    walk_at "run"
    refine ⟨el, ?_⟩
    walk_at "run"
    exact w _ _ (st.trans (st.to.uev _))
  | look a b =>
    obtain ⟨⟨t, g⟩, hb⟩ := fit
    have ew : s.step (.look a b) = s.look a t b := by show onA s a _ = _; unfold onA; rw [g.g]
    rw [ew] at w
    walk_at "go"
    refine op a t sLook _ false g.g g.o rfl rfl (none0 t g.s) rfl ?_
    walk_at "run"
    refine Br.tt ?_
    walk_at "run"
    exact c2 a b t _ g.g hb fun S' st => w _ _ st
  | put a b v =>
    obtain ⟨⟨t, g⟩, hb⟩ := fit
    have ew : s.step (.put a b v) = (s.put a t b v, .non) := by show onA s a _ = _; unfold onA; rw [g.g]
    rw [ew] at w
    walk_at "go"
    refine op a t sPut _ false g.g g.o rfl rfl (none0 t g.s) rfl ?_
    have gi := h.gi g.g
    have gp := h.gpt g.g
    have gd := dat (L := L) g.g
    walk_at "run"
    refine Br.ff ?_
    walk_at "run"
    refine Br.ff ?_
    walk_at "run"
    refine Br.ff ?_
    walk_at "run"
    refine Br.ff ?_
    walk_at "run"
    refine ⟨?_, ?_⟩
    · show (encI D.int t.puts).length < sizeLine
      unfold encI
      rw [List.length_map]
      exact Nat.lt_of_le_of_lt (Nat.le_trans (wf.att a t g.g).ptl hN) (by decide)
    rw [dput_enc]
    walk_at "s1"
    have st := h.upt g.g (pput t.puts b v)
    generalize su S (L (.pt a)) (.dic (encI D.int (pput t.puts b v))) = S1 at st ⊢
    have gk1 := st.to.gk
    have ge1 := st.to.gev
    walk_at "run"
    refine ⟨Nat.lt_of_le_of_lt (Nat.le_trans wf.el hN) (by decide), ?_⟩
    walk_at "run"
    exact w _ _ (st.trans (st.to.uev (e4 sPut a b v)))
  | take a =>
    obtain ⟨t, g⟩ := fit
    have ew : s.step (.take a) = s.take a t := by show onA s a _ = _; unfold onA; rw [g.g]
    rw [ew] at w
    walk_at "go"
    refine op a t sTake _ false g.g g.o rfl rfl (none0 t g.s) rfl ?_
    walk_at "run"
    refine Br.ff ?_
    walk_at "run"
    refine Br.tt ?_
    walk_at "run"
    exact c3 a t _ g.g fun S' L' st => w _ _ st
  | write a =>
    obtain ⟨t, z, g, ho, hs⟩ := fit
    have ew : s.step (.write a) = s.write a t := by show onA s a _ = _; unfold onA; rw [g]
    rw [ew] at w
    have hl := (iv.lf a t g).mpr ⟨by rw [hs]; rfl, ho⟩
    obtain ⟨b, r, hl⟩ := List.exists_cons_of_ne_nil hl
    walk_at "go"
    refine op a t sWrite _ true g ho rfl rfl (by unfold stampM; rw [hs]; exact decide_eq_true (iv.st a t z g hs)) rfl ?_
    walk_at "run"
    refine Br.ff ?_
    walk_at "run"
    refine Br.ff ?_
    walk_at "run"
    refine Br.tt ?_
    walk_at "run"
    exact c4 a t z b r _ g hs hl fun S' st => w _ _ st
  | fall a =>
    obtain ⟨t, g⟩ := fit
    have ew : s.step (.fall a) = (s.ends a t sFall, .non) := by show onA s a _ = _; unfold onA; rw [g.g]
    rw [ew] at w
    walk_at "go"
    refine op a t sFall _ false g.g g.o rfl rfl (none0 t g.s) rfl ?_
    walk_at "run"
    refine Br.ff ?_
    walk_at "run"
    refine Br.ff ?_
    walk_at "run"
    refine Br.ff ?_
    walk_at "run"
    refine Br.tt ?_
    walk_at "run"
    exact c1 a sFall t .non _ g.g fun S' st => w _ _ st
end
end LU

/-! M6: the laws' own keeper made; its order; what the program's keeper is asked; a drawn world. -/
namespace LU
open PySem L2 PySem.Spec PyProof.Rows DL LW
local macro_rules | `(tactic| walk_at "s1") => `(tactic| first | with_reducible refine one1_i ?_ | with_reducible refine storD ?_ | with_reducible refine storV ?_ | with_reducible refine storVd ?_ | with_reducible refine bxD ?_ | refine ⟨_, rfl, ?_⟩ | refine ⟨_, _, rfl, by assumption, ?_⟩ | refine ⟨_, _, _, rfl, by assumption, rfl, ?_⟩ | refine ⟨_, by assumption, ?_⟩ | refine ⟨rfl, ?_⟩ | refine ⟨.inl rfl, ?_⟩ | refine ⟨Nat.le_of_ble_eq_true rfl, ?_⟩)
local macro_rules | `(tactic| walk_at "go") => `(tactic| (walk_at "s1"; repeat ((fail_if_success with_reducible refine isS ?_); walk_at "s1")))
local macro_rules | `(tactic| walk_at "run") => `(tactic| repeat walk_at "s1")
theorem model_ok {T : Tbl} (hT : T.fn 200 = some f_law_model) (n : Nat) {S : Hs} {wd : D} {st : List Int} {Q : VK2} (hs : st.length ≤ 60)
    (w : ∀ (S' : Hs) (l1 l2 l5 l6 : Addr), S' l1 = some (.lst (st.map D.int)) → S' l2 = some (.lst ((List.replicate st.length (0 : Int)).map D.int)) → S' l5 = some (.dic []) → S' l6 = some (.lst []) → S l1 = none → S l2 = none → S l5 = none → S l6 = none → l1 ≠ l2 → l1 ≠ l5 → l1 ≠ l6 → l2 ≠ l5 → l2 ≠ l6 → l5 ≠ l6 → (∀ b o, S b = some o → S' b = some o) → (∀ b, S b = none → b ≠ l1 → b ≠ l2 → b ≠ l5 → b ≠ l6 → S' b = none) →
      Q (.vd [(.str kBoxes, .ref l1), (.str kMarks, .ref l2), (.str kClock, .int 0), (.str kTries, .ref l5), (.str kLog, .ref l6)]) S') : cal T (n + 1) 200 [.d (.tup (st.map D.int))] S Q := by
  refine ⟨_, hT, rfl, rfl, ?_⟩
  generalize cal T n = c
  walk_at "run"
  intro l1 h1
  walk_at "run"
  refine ⟨by rw [List.length_map]; omega, by rw [List.length_map]; omega, by rw [List.length_map]; exact Nat.le_trans (show 1 * ((st.length : Nat) : Int).toNat ≤ 60 by omega) (by decide), ?_⟩
  rw [List.length_map, show ((st.length : Nat) : Int).toNat = st.length by omega, repD_ints]
  intro l2 h2
  walk_at "run"
  intro l5 h5
  walk_at "run"
  intro l6 h6
  walk_at "run"
  have n12 : l1 ≠ l2 := fun q => by rw [← q, su_same] at h2; cases h2
  have n25 : l2 ≠ l5 := fun q => by rw [← q, su_same] at h5; cases h5
  have n15 : l1 ≠ l5 := fun q => by rw [← q, su_ne n12, su_same] at h5; cases h5
  have n56 : l5 ≠ l6 := fun q => by rw [← q, su_same] at h6; cases h6
  have n26 : l2 ≠ l6 := fun q => by rw [← q, su_ne n25, su_same] at h6; cases h6
  have n16 : l1 ≠ l6 := fun q => by rw [← q, su_ne n15, su_ne n12, su_same] at h6; cases h6
  rw [su_ne n12.symm] at h2
  rw [su_ne n25.symm, su_ne n15.symm] at h5
  rw [su_ne n56.symm, su_ne n26.symm, su_ne n16.symm] at h6
  have nn : ∀ b o y, S b = some o → S y = none → b ≠ y := fun b o y e n q => by rw [q, n] at e; cases e
  refine w _ l1 l2 l5 l6 ?_ ?_ ?_ ?_ h1 h2 h5 h6 n12 n15 n16 n25 n26 n56 (fun b o e => ?_) (fun b e a1 a2 a5 a6 => ?_)
  · rw [su_ne n16, su_ne n15, su_ne n12, su_same]
  · rw [su_ne n26, su_ne n25, su_same]
  · rw [su_ne n56, su_same]
  · rw [su_same]
  · rw [su_ne (nn b o l6 e h6), su_ne (nn b o l5 e h5), su_ne (nn b o l2 e h2), su_ne (nn b o l1 e h1)]; exact e
  · rw [su_ne a6, su_ne a5, su_ne a2, su_ne a1]; exact e
theorem MAt.made {S S' : Hs} {x l1 l2 l5 l6 : Addr} {wd : D} {st : List Int} (hx : S' x = some (.dic [(.str kBoxes, .ref l1), (.str kMarks, .ref l2), (.str kClock, .int 0), (.str kTries, .ref l5), (.str kLog, .ref l6)])) (h1 : S' l1 = some (.lst (st.map D.int))) (h2 : S' l2 = some (.lst ((List.replicate st.length (0 : Int)).map D.int)))
    (h5 : S' l5 = some (.dic [])) (h6 : S' l6 = some (.lst [])) (nx : S x = none) (n1 : S l1 = none) (n2 : S l2 = none) (n5 : S l5 = none) (n6 : S l6 = none)
    (d12 : l1 ≠ l2) (d15 : l1 ≠ l5) (d16 : l1 ≠ l6) (d25 : l2 ≠ l5) (d26 : l2 ≠ l6) (d56 : l5 ≠ l6) (x1 : x ≠ l1) (x2 : x ≠ l2) (x5 : x ≠ l5) (x6 : x ≠ l6) :
    ∃ L : Role → Addr, L .k = x ∧ MAt S' L (Ks.new wd st) ∧ ∀ b, foot L (objM L (Ks.new wd st)) b → S b = none := by
  refine ⟨fun r => match r with | .k => x | .bx => l1 | .mk => l2 | .ats => l5 | .ev => l6 | _ => x, rfl, ⟨fun r o e => ?_, fun r q hr hq e => ?_⟩, fun b ⟨r, hr, e⟩ => ?_⟩
  · cases r <;> first | (cases e; assumption) | cases e
  · cases r <;> cases q <;> first | rfl | (exact absurd e (by assumption)) | (exact absurd e.symm (by assumption)) | (cases hr; done) | (cases hq; done)
  · cases r <;> first | (cases e; assumption) | cases hr
theorem idx_two {T : Tbl} {c : Nat → List Vx → Hs → VK2 → Prop} {σ : Sl} {i : Int} {x y : D} {S : Hs} {Q : VK2} (h : 0 ≤ i) (q : Q (.d y) S) :
    wpE T c (.i 0) σ S (one1 fun y' S2 => op2D .ge (.d (.int i)) y' S2 fun z S3 => one1 (fun x' S1 => op1D .int x' S1 fun z S2 => one1 (fun w S3 => op2D .idx (.vl [x, y]) w S3 Q) [z] S2) [z] S3) := by
  show op1D .int (.d (.bl (decide ((0 : Int) ≤ i)))) S (fun z S2 => one1 (fun w S3 => op2D .idx (.vl [x, y]) w S3 Q) [z] S2)
  rw [decide_eq_true h]
  exact ⟨_, rfl, q⟩
theorem order_law_ok {T : Tbl} {k : Nat} (hT : T.fn k = some f_law_order) (n : Nat) {N : Nat} {S : Hs} {L : Role → Addr} {s : Ks} {Q : VK2} (h : MAt S L s) (iv : Kinv s) (wf : Kwf N s) (hN : N ≤ 50000) (w : Q (.vl (s.order.map D.int)) S) : cal T (n + 1) k [.d (.ref (L .k))] S Q := by
  refine ⟨_, hT, rfl, rfl, ?_⟩
  generalize cal T n = c
  have gk := h.gk
  have ga := h.gat
  refine ⟨_, rfl, Nat.le_of_ble_eq_true rfl, ?_⟩
  refine ⟨L .ats, _, ga, fun ho => ?_⟩
  have nk : L .k ≠ L .ats := h.ne (r := .k) (q := .ats) rfl rfl nofun
  have gk1 : (su S (L .ats) (.fdc (s.atts.map fun (e : Int × Att) => (D.int e.1, D.ref (L (.i e.1)))) ho)) (L .k) = _ := (su_ne nk).trans gk
  have ga1 : (su S (L .ats) (.fdc (s.atts.map fun (e : Int × Att) => (D.int e.1, D.ref (L (.i e.1)))) ho)) (L .ats) = _ := su_same
  walk_at "go"
  refine ⟨_, _, _, rfl, ga1, ?_⟩
  refine forL_enum' (fun (e : Int × Att) => D.int e.1) s.atts (by simp) (fun n rest σ S2 => ∃ (pre : List (Int × Att)) (s2 s3 s4 : Option Vx), s.atts = pre ++ rest ∧ n = pre.length ∧ σ = [some (.d (.ref (L .k))), some (.vl ((rowsAt 0 pre).map tupI)), s2, s3, s4, none] ∧ S2 = su S (L .ats) (.fdc (s.atts.map fun (e : Int × Att) => (D.int e.1, D.ref (L (.i e.1)))) ho)) ?_ ?_ ?_ _ _ ⟨[], _, _, _, rfl, rfl, rfl, rfl⟩
  · rintro n l σ S2 ⟨pre, s2, s3, s4, e, rfl, rfl, rfl⟩
    exact ga1
  · rintro n σ S2 ⟨pre, s2, s3, s4, e, rfl, rfl, rfl⟩
    rw [List.append_nil] at e
    subst e
    refine ⟨ga1, ?_⟩
    rw [su_su, su_id ga]
    have four := rowsAt_four s.atts 0
    have len := rowsAt_len s.atts 0
    refine ⟨_, rfl, ⟨rowsAt 0 s.atts, rfl, fun p hp e => ?_, fun qs hp hq => ?_⟩⟩
    · have := four p hp
      rw [e] at this; cases this
    · have e := srtR_eq hp hq
      subst e
      refine compL_fm' tupI (fun r => some (.int (r.getD 3 0))) (srtR (rowsAt 0 s.atts)) rfl trivial (fun r hr P1 P2 h1 _ => ?_) ?_ ?_
      · have hr4 := four r ((srtR_perm _).mem_iff.mp hr)
        exact Br.tt ⟨_, rfl, ⟨_, row_last hr4, h1 _ rfl⟩⟩
      · rw [(srtR_perm _).length_eq, len]
        exact Nat.le_trans wf.al (Nat.le_trans hN (by decide))
      · rw [List.filterMap_eq_map']
        have : ((srtR (rowsAt 0 s.atts)).map fun r => D.int (r.getD 3 0)) = s.order.map D.int := by
          unfold Ks.order Ks.rows
          rw [List.map_map]; rfl
        show Q (.vl ((srtR (rowsAt 0 s.atts)).map fun r => D.int (r.getD 3 0))) S
        rw [this]; exact w
  · rintro n e rest he kk σ S2 hk ⟨pre, s2, s3, s4, epre, rfl, rfl, rfl⟩
    have hg := pget_of wf.an he
    have ni : L (.i e.1) ≠ L .ats := h.ne (r := .i e.1) (q := .ats) (by rw [moi hg]; rfl) rfl nofun
    have gi1 : (su S (L .ats) (.fdc (s.atts.map fun (e : Int × Att) => (D.int e.1, D.ref (L (.i e.1)))) ho)) (L (.i e.1)) = _ := (su_ne ni).trans (h.gi hg)
    have gd := dat (L := L) hg
    have ll : ((rowsAt 0 pre).map tupI).length < sizeLine := by
      rw [List.length_map, rowsAt_len]
      have := wf.al
      rw [epre, List.length_append] at this
      exact Nat.lt_of_le_of_lt (show pre.length ≤ 50000 by omega) (by decide)
    have fin : ∀ (row : List Int), rowOf pre.length e = row → kk [some (.d (.ref (L .k))), some (.vl ((rowsAt 0 pre).map tupI ++ [tupI row])), some (.d (.int (pre.length : Nat))), some (.d (.int e.1)), some (.d (.ref (L (.i e.1)))), none] (su S (L .ats) (.fdc (s.atts.map fun (e : Int × Att) => (D.int e.1, D.ref (L (.i e.1)))) ho)) := fun row hrow => by
      have er : (rowsAt 0 (pre ++ [e])).map tupI = (rowsAt 0 pre).map tupI ++ [tupI row] := by
        rw [rowsAt_snoc, Nat.zero_add, hrow, List.map_append]; rfl
      refine hk _ _ ⟨pre ++ [e], some (.d (.int (pre.length : Nat))), some (.d (.int e.1)), some (.d (.ref (L (.i e.1)))), by rw [epre]; simp, by simp, ?_, rfl⟩
      rw [er]
    refine ⟨_, rfl, ?_⟩
    walk_at "go"
    have es : stampM e.2 = e.2.stamp.getD (-1) := rfl
    cases hs : e.2.stamp with
    | none =>
      unfold objJ at gi1
      rw [es, hs] at gi1
      walk_at "run"
      exact ⟨ll, fin [e.2.glance, 1, (pre.length : Nat), e.1] (by unfold rowOf; rw [hs])⟩
    | some z =>
      have hz := iv.st e.1 e.2 z hg hs
      unfold objJ at gi1
      rw [es, hs] at gi1
      walk_at "run"
      have ez : (decide ((0 : Int) ≤ z)) = true := decide_eq_true hz
      refine idx_two hz ?_
      walk_at "run"
      exact ⟨ll, fin [z, 0, (pre.length : Nat), e.1] (by unfold rowOf; rw [hs])⟩
structure KpT3 (T : Tbl) : Prop where
  c180 : T.fcls 180 = 10
  c181 : T.fcls 181 = 10
  c186 : T.fcls 186 = 10
  c187 : T.fcls 187 = 10
  c189 : T.fcls 189 = 10
  c190 : T.fcls 190 = 10
  c191 : T.fcls 191 = 10
  f187 : T.fn 187 = some f_Keeper_put
  f191 : T.fn 191 = some f_Keeper_fall
section
variable {T : Tbl} (kt : KpT T) (k3 : KpT3 T) (n : Nat) {N : Nat} {S : Hs} {L : Role → Addr} {s : Ks} {a b v : Int} {t : Att} {Q : VK2}
include kt k3
theorem asked_ok {k : Nat} (hT : T.fn k = some f_law_asked_2) (h : KAt S L s) (iv : Kinv s) (wf : Kwf N s) (hN : N ≤ 50000) {q : Cl} (fit : q.fit s)
    (w : ∀ S' L', KStep S L s S' L' (s.step q).1 → Q (.d (s.step q).2) S') : cal T (n + 5) k [.d (.ref (L .k)), .d q.d] S Q := by
  refine ⟨_, hT, rfl, rfl, ?_⟩
  have c1 := fun (a : Int) Q ha => begin_ok kt (n + 2) (a := a) (Q := Q) h wf hN ha
  have c2 := fun (a b : Int) (t : Att) Q ha ho hs hb => look_ok kt n (a := a) (b := b) (t := t) (Q := Q) h wf hN k3.c180 ha ho hs hb
  have c3 := fun (a b v : Int) (t : Att) Q ha ho hs => put_ok kt (n + 1) (a := a) (b := b) (v := v) (t := t) (Q := Q) h wf hN k3.c180 k3.f187 ha ho hs
  have c4 := fun (a : Int) (t : Att) Q ha ho hs => take_ok kt n (a := a) (t := t) (Q := Q) h wf hN k3.c180 ha ho hs
  have c5 := fun (a : Int) (t : Att) (z b : Int) (r : List Int) Q ha ho hs hl => write_ok kt (n + 2) (a := a) (t := t) (z := z) (b := b) (r := r) (Q := Q) h wf hN ha ho hs hl
  have c6 := fun (a : Int) (t : Att) Q ha ho hs => fall_ok kt (n + 1) (a := a) (t := t) (Q := Q) h wf hN k3.c180 k3.f191 ha ho hs
  generalize cal T (n + 4) = c at c1 c2 c3 c4 c5 c6 ⊢
  have g1 := h.rd.gkc k3.c181
  have g2 := h.rd.gkc k3.c186
  have g3 := h.rd.gkc k3.c187
  have g4 := h.rd.gkc k3.c189
  have g5 := h.rd.gkc k3.c190
  have g6 := h.rd.gkc k3.c191
  cases q with
  | begin a =>
    have ha : pget s.atts a = none := fit
    walk_at "run"
    refine Br.tt ?_
    walk_at "run"
    refine c1 a _ ha fun S' L' st => ?_
    walk_at "run"
    exact Br.tt ⟨_, rfl, w _ _ st⟩
  | look a b =>
    obtain ⟨⟨t, g⟩, hb⟩ := fit
    have ew : s.step (.look a b) = s.look a t b := by show onA s a _ = _; unfold onA; rw [g.g]
    rw [ew] at w
    walk_at "run"
    refine Br.ff ?_
    walk_at "run"
    refine Br.tt ?_
    walk_at "run"
    refine c2 a b t _ g.g g.o g.s hb fun S' st => ?_
    walk_at "run"
    exact Br.tt ⟨_, rfl, w _ _ st⟩
  | put a b v =>
    obtain ⟨⟨t, g⟩, hb⟩ := fit
    have ew : s.step (.put a b v) = (s.put a t b v, .non) := by show onA s a _ = _; unfold onA; rw [g.g]
    rw [ew] at w
    walk_at "run"
    refine Br.ff ?_
    walk_at "run"
    refine Br.ff ?_
    walk_at "run"
    refine Br.tt ?_
    walk_at "run"
    refine c3 a b v t _ g.g g.o g.s fun S' st => ?_
    walk_at "run"
    exact Br.tt ⟨_, rfl, w _ _ st⟩
  | take a =>
    obtain ⟨t, g⟩ := fit
    have ew : s.step (.take a) = s.take a t := by show onA s a _ = _; unfold onA; rw [g.g]
    rw [ew] at w
    walk_at "run"
    refine Br.ff ?_
    walk_at "run"
    refine Br.ff ?_
    walk_at "run"
    refine Br.ff ?_
    walk_at "run"
    refine Br.tt ?_
    walk_at "run"
    refine c4 a t _ g.g g.o g.s fun S' L' st => ?_
    walk_at "run"
    exact Br.tt ⟨_, rfl, w _ _ st⟩
  | write a =>
    obtain ⟨t, z, g, ho, hs⟩ := fit
    have ew : s.step (.write a) = s.write a t := by show onA s a _ = _; unfold onA; rw [g]
    rw [ew] at w
    have hl := (iv.lf a t g).mpr ⟨by rw [hs]; rfl, ho⟩
    obtain ⟨b, r, hl⟩ := List.exists_cons_of_ne_nil hl
    walk_at "run"
    refine Br.ff ?_
    walk_at "run"
    refine Br.ff ?_
    walk_at "run"
    refine Br.ff ?_
    walk_at "run"
    refine Br.ff ?_
    walk_at "run"
    refine Br.tt ?_
    walk_at "run"
    refine c5 a t z b r _ g ho hs hl fun S' st => ?_
    walk_at "run"
    exact Br.tt ⟨_, rfl, w _ _ st⟩
  | fall a =>
    obtain ⟨t, g⟩ := fit
    have ew : s.step (.fall a) = (s.ends a t sFall, .non) := by show onA s a _ = _; unfold onA; rw [g.g]
    rw [ew] at w
    walk_at "run"
    refine Br.ff ?_
    walk_at "run"
    refine Br.ff ?_
    walk_at "run"
    refine Br.ff ?_
    walk_at "run"
    refine Br.ff ?_
    walk_at "run"
    refine Br.ff ?_
    walk_at "run"
    refine c6 a t _ g.g g.o g.s fun S' st => ?_
    walk_at "run"
    exact Br.tt ⟨_, rfl, w _ _ st⟩
end
end LU

/-! M7: a drawn world, a drawn call. -/
namespace LU
open PySem L2 PySem.Spec PyProof.Rows DL LW
local macro_rules | `(tactic| walk_at "s1") => `(tactic| first | with_reducible refine one1_i ?_ | with_reducible refine storD ?_ | with_reducible refine storV ?_ | with_reducible refine storVd ?_ | with_reducible refine bxD ?_ | refine ⟨_, rfl, ?_⟩ | refine ⟨_, _, rfl, by assumption, ?_⟩ | refine ⟨_, _, _, rfl, by assumption, rfl, ?_⟩ | refine ⟨_, by assumption, ?_⟩ | refine ⟨rfl, ?_⟩ | refine ⟨.inl rfl, ?_⟩ | refine ⟨Nat.le_of_ble_eq_true rfl, ?_⟩)
local macro_rules | `(tactic| walk_at "go") => `(tactic| (walk_at "s1"; repeat ((fail_if_success with_reducible refine isS ?_); walk_at "s1")))
local macro_rules | `(tactic| walk_at "run") => `(tactic| repeat walk_at "s1")
theorem At.fr {ρ : Type} {S S' : Hs} {L : ρ → Addr} {ob : ρ → Option O} {p : Addr} (h : At S L ob) (d : ∀ r, (ob r).isSome → L r ≠ p) (f : Fr p S S') : At S' L ob := ⟨fun r o e => f _ _ (h.at_ r o e) (d r (by rw [e]; rfl)), h.inj⟩
def wheelOk (w : Int) : Prop := w = 2 ∨ w = 3 ∨ w = 7 ∨ w = 1000
theorem world_ok {T : Tbl} (h7 : T.fn 147 = some f_law_sip) (hT : T.fn 197 = some f_law_world_2) (n : Nat) {S : Hs} {p : Addr} {v : Int} {Q : VK2} (hw : S p = some (.lst [.int v]))
    (w : ∀ (m wh : Int) (st : List Int) (v' : Int) (S' : Hs), 1 ≤ m → m ≤ 6 → wheelOk wh → (st.length : Int) = m → (∀ x ∈ st, 0 ≤ x ∧ x < wh) → Fr p S S' → S' p = some (.lst [.int v']) → Q (.d (.tup [.tup [.int m, .int wh], .tup (st.map D.int)])) S') : cal T (n + 2) 197 [.d (.ref p)] S Q := by
  refine ⟨_, hT, rfl, rfl, ?_⟩
  have hs := fun (S : Hs) (v m : Int) Q (h : S p = some (.lst [.int v])) => sip_ok h7 n (m := m) (Q := Q) h
  generalize cal T (n + 1) = c at hs ⊢
  walk_at "run"
  refine hs _ _ _ _ hw (by decide) (by decide) fun d v1 d0 d1 => ?_
  refine idx_ints (l := [2, 3, 6]) d0 d1 fun mo hmo => ?_
  have hmo : 2 ≤ mo ∧ mo ≤ 6 := by simp at hmo; omega
  walk_at "run"
  refine hs _ _ _ _ su_same (by omega) (by omega) fun m v2 m0 m1 => ?_
  rw [su_su]
  walk_at "run"
  refine hs _ _ _ _ su_same (by decide) (by decide) fun d v3 d0 d1 => ?_
  rw [su_su]
  refine idx_ints (l := [2, 3, 7, 1000]) d0 d1 fun wh hwh => ?_
  have hwh : wheelOk wh := by simpa [wheelOk] using hwh
  have wb : 2 ≤ wh ∧ wh ≤ 1000 := by unfold wheelOk at hwh; omega
  walk_at "run"
  refine ⟨by omega, by omega, ?_⟩
  have len : (rngD 0 (1 + m).toNat).length = (1 + m).toNat := rngD_len _ _
  refine compL_cnt (fun acc S' => ∃ (l : List Int) (v : Int), acc = l.map D.int ∧ (∀ x ∈ l, 0 ≤ x ∧ x < wh) ∧ Fr p S S' ∧ S' p = some (.lst [.int v])) (1 + m).toNat (fun _ _ _ => trivial) (Nat.le_trans (show (1 + m).toNat ≤ 100 by omega) (by decide)) ?_ _ ?_ [] _ (by rw [len]; simp) ⟨[], v3, rfl, nofun, Fr.pen, su_same⟩
  · rintro acc S' hl ⟨l, v4, rfl, hr, fr, hv⟩
    rw [List.length_map] at hl
    walk_at "run"
    exact w (1 + m) wh l v4 S' (by omega) (by omega) hwh (by omega) hr fr hv
  · rintro x hx acc S' _ ⟨l, v4, rfl, hr, fr, hv⟩ P1 P2 h1
    refine Br.tt ?_
    walk_at "run"
    refine hs _ _ _ _ hv (by omega) (by omega) fun d v5 d0 d1 => ?_
    refine h1 _ _ ⟨l ++ [d], v5, by simp, fun y hy => ?_, fr.trans Fr.pen, su_same⟩
    rcases List.mem_append.mp hy with hy | hy
    · exact hr y hy
    · have : y = d := by simpa using hy
      rw [this]; exact ⟨d0, d1⟩
/-- the numbers of attempts as they are drawn -/
def keyOf (most : Int) (i : Nat) : Int := ((i : Int) * 3) % most
structure Keyed (most : Int) (s : Ks) : Prop where
  k : s.atts.map Prod.fst = (List.range s.atts.length).map (keyOf most)
  l : (s.atts.length : Int) ≤ most
def Cl.drawn (most wh : Int) (s : Ks) : Cl → Prop
  | .begin a => (s.atts.length : Int) < most ∧ a = keyOf most s.atts.length
  | .put _ _ v => 0 ≤ v ∧ v < wh
  | _ => True
theorem keyed_new {most : Int} {s : Ks} (hm : ∀ i j : Nat, i < j → (j : Int) < most → keyOf most i ≠ keyOf most j) (h : Keyed most s) (l : (s.atts.length : Int) < most) : pget s.atts (keyOf most s.atts.length) = none := by
  refine pget_none.mpr fun e he q => ?_
  have : e.1 ∈ s.atts.map Prod.fst := List.mem_map_of_mem he
  rw [h.k] at this
  obtain ⟨i, hi, e2⟩ := List.mem_map.mp this
  exact hm i s.atts.length (List.mem_range.mp hi) l (e2.trans q)
theorem drawn_ok {T : Tbl} (h7 : T.fn 147 = some f_law_sip) {k : Nat} (hT : T.fn k = some f_law_drawn_call) (n : Nat) {N : Nat} {S : Hs} {p : Addr} {v m wh most : Int} {L : Role → Addr} {s : Ks} {Q : VK2} (hw : S p = some (.lst [.int v])) (h : MAt S L s) (dis : ∀ r, (objM L s r).isSome → L r ≠ p)
    (iv : Kinv s) (wf : Kwf N s) (hN : N ≤ 4000) (kd : Keyed most s) (mm : 1 ≤ most ∧ most ≤ 300) (hm : ∀ i j : Nat, i < j → (j : Int) < most → keyOf most i ≠ keyOf most j) (hbl : (s.boxes.length : Int) = m) (m1 : 1 ≤ m) (hwh : 1 ≤ wh ∧ wh ≤ 1000)
    (w0 : ∀ v' S', Fr p S S' → S' p = some (.lst [.int v']) → (∀ e ∈ s.atts, e.2.opn = false) → Q (.d .non) S') (w : ∀ (c : Cl) v' S', c.fit s → c.drawn most wh s → Fr p S S' → S' p = some (.lst [.int v']) → Q (.d c.d) S') :
    cal T (n + 2) k [.d (.ref p), .d (.tup [.int m, .int wh]), .d (.ref (L .k)), .d (.int most)] S Q := by
  refine ⟨_, hT, rfl, rfl, ?_⟩
  have hs := fun (S : Hs) (v m : Int) Q (h : S p = some (.lst [.int v])) => sip_ok h7 n (m := m) (Q := Q) h
  generalize cal T (n + 1) = c at hs ⊢
  have gat := h.gat
  have mb : m ≤ 60 := by have := wf.bl; omega
  refine ⟨L .ats, _, gat, fun ho => ?_⟩
  have ek : (su S (L .ats) (.fdc (s.atts.map fun (e : Int × Att) => (.int e.1, .ref (L (.i e.1)))) ho)) (L .k) = some (topM L s.time) := (su_ne (h.ne (r := .k) (q := .ats) rfl rfl nofun)).trans h.gk
  have ea : (su S (L .ats) (.fdc (s.atts.map fun (e : Int × Att) => (.int e.1, .ref (L (.i e.1)))) ho)) (L .ats) = some (.fdc (s.atts.map fun (e : Int × Att) => (.int e.1, .ref (L (.i e.1)))) ho) := su_same
  have ei : ∀ r o, objM L s r = some o → r ≠ .ats → (su S (L .ats) (.fdc (s.atts.map fun (e : Int × Att) => (.int e.1, .ref (L (.i e.1)))) ho)) (L r) = some o := fun r o e z => (su_ne (h.ne (by rw [e]; rfl) rfl z)).trans (h.at_ r o e)
  have back : su (su S (L .ats) (.fdc (s.atts.map fun (e : Int × Att) => (.int e.1, .ref (L (.i e.1)))) ho)) (L .ats) (.dic (s.atts.map fun (e : Int × Att) => (.int e.1, .ref (L (.i e.1))))) = S := by rw [su_su, su_id gat]
  generalize su S (L .ats) (.fdc (s.atts.map fun (e : Int × Att) => (.int e.1, .ref (L (.i e.1)))) ho) = S1 at ek ea ei back ⊢
  walk_at "run"
  refine ⟨_, _, _, rfl, ea, ?_⟩
  refine compL_fm' (fun (e : Int × Att) => D.int e.1) (fun e => if e.2.opn = true then some (.int e.1) else none) s.atts (by simp) ea (fun e he P1 P2 h1 h2 => ?_) ?_ ?_
  · have hg := pget_of wf.an he
    have gi := ei (.i e.1) _ (moi hg) nofun
    have gd := dat (L := L) hg
    walk_at "run"
    exact Br.mk (fun q => ⟨_, rfl, h1 _ (if_pos q)⟩) (fun q => h2 (if_neg (by rw [q]; decide)))
  · exact Nat.le_trans wf.al (Nat.le_trans hN (by decide))
  have eg : ∀ l : List (Int × Att), (l.filterMap fun e => if e.2.opn = true then some (D.int e.1) else none) = ((l.filter fun e => e.2.opn).map Prod.fst).map D.int := by
    intro l
    induction l with
    | nil => rfl
    | cons e l ih =>
      rw [List.filterMap_cons, List.filter_cons]
      by_cases q : e.2.opn = true
      · rw [if_pos q, if_pos q, ih]; rfl
      · rw [if_neg q, if_neg q, ih]
  rw [eg]
  refine ⟨ea, ?_⟩
  rw [back]
  clear ek ea ei back
  have gmem : ∀ a ∈ (s.atts.filter fun e => e.2.opn).map Prod.fst, ∃ t, pget s.atts a = some t ∧ t.opn = true := fun a ha => by
    obtain ⟨e, he, rfl⟩ := List.mem_map.mp ha
    obtain ⟨he, ho⟩ := List.mem_filter.mp he
    exact ⟨e.2, pget_of wf.an he, ho⟩
  have gemp : (s.atts.filter fun e => e.2.opn).map Prod.fst = [] → ∀ e ∈ s.atts, e.2.opn = false := fun q e he => by
    cases ho : e.2.opn with
    | false => rfl
    | true =>
      have : e.1 ∈ (s.atts.filter fun e => e.2.opn).map Prod.fst := List.mem_map_of_mem (List.mem_filter.mpr ⟨he, ho⟩)
      rw [q] at this; cases this
  have glen : ((s.atts.filter fun e => e.2.opn).map Prod.fst).length ≤ 4000 := by
    rw [List.length_map]
    exact Nat.le_trans (List.length_filter_le _ _) (Nat.le_trans wf.al hN)
  generalize (s.atts.filter fun e => e.2.opn).map Prod.fst = going at gmem gemp glen ⊢
  have gk := h.gk
  have ee : eqBs (going.map D.int) [] = decide (going = []) := by cases going <;> rfl
  walk_at "go"
  have gen : (∀ v' S2, Fr p S S2 → S2 p = some (.lst [.int v']) → going ≠ [] → DL.wpS T c (sqn 3 f_law_drawn_call.body) [some (.d (.ref p)), some (.d (.tup [.int m, .int wh])), some (.d (.ref (L .k))), some (.d (.int most)), some (.vl (going.map D.int)), none, some (.d (.int (s.atts.length : Nat))), none, none] S2 (fun _ S' => Q (.d .non) S') Q (fun _ _ => False) (fun _ _ => False)) := by
    intro v' S2 fr hv hne
    have h2 := At.fr h dis fr
    have gk : S2 (L .k) = some (topM L s.time) := MAt.gk h2
    have gat : S2 (L .ats) = _ := MAt.gat h2
    walk_at "run"
    rw [ee, decide_eq_false hne]
    refine Br.ff ?_
    walk_at "run"
    have gpos : 0 < going.length := List.length_pos_iff.mpr hne
    refine hs _ _ _ _ hv (by rw [List.length_map]; omega) (by rw [List.length_map]; omega) fun d v3 d0 d1 => ?_
    rw [List.length_map] at d1
    refine idx_ints (l := going) d0 d1 fun a ha => ?_
    obtain ⟨t, ga, ho⟩ := gmem a ha
    walk_at "run"
    refine hs _ _ _ _ su_same (by omega) (by omega) fun b v4 b0 b1 => ?_
    rw [su_su]
    have fr4 := fr.trans (Fr.pen (S := S2) (o := .lst [.int v4]))
    have e4 : (su S2 p (.lst [.int v4])) p = some (.lst [.int v4]) := su_same
    generalize su S2 p (.lst [.int v4]) = S4 at fr4 e4 ⊢
    have h4 := At.fr h dis fr4
    have gk : S4 (L .k) = some (topM L s.time) := MAt.gk h4
    have gat : S4 (L .ats) = _ := MAt.gat h4
    have gi : S4 (L (.i a)) = _ := MAt.gi h4 ga
    have gd := dat (L := L) ga
    have hb : inR s b := ⟨b0, by rw [hbl]; exact b1⟩
    walk_at "run"
    cases hst : t.stamp with
    | some z =>
      have hz := iv.st a t z ga hst
      have e5 : decide ((0 : Int) ≤ stampM t) = true := by unfold stampM; rw [hst]; exact decide_eq_true hz
      show Br (decide ((0 : Int) ≤ stampM t)) _ _
      rw [e5]
      refine Br.tt ?_
      walk_at "run"
      exact w (.write a) _ _ ⟨t, z, ga, ho, hst⟩ trivial fr4 e4
    | none =>
      have g : Going s a t := ⟨ga, ho, hst⟩
      have e5 : decide ((0 : Int) ≤ stampM t) = false := by unfold stampM; rw [hst]; rfl
      show Br (decide ((0 : Int) ≤ stampM t)) _ _
      rw [e5]
      refine Br.ff ?_
      walk_at "run"
      refine hs _ _ _ _ e4 (by decide) (by decide) fun y v5 y0 y1 => ?_
      have fr5 := fr4.trans (Fr.pen (S := S4) (o := .lst [.int v5]))
      have e6 : (su S4 p (.lst [.int v5])) p = some (.lst [.int v5]) := su_same
      generalize su S4 p (.lst [.int v5]) = S5 at fr5 e6 ⊢
      walk_at "run"
      refine Br.mk (fun q => ?_) (fun q => ?_)
      · walk_at "run"
        exact w (.look a b) _ _ ⟨⟨t, g⟩, hb⟩ trivial fr5 e6
      · walk_at "run"
        refine Br.mk (fun q => ?_) (fun q => ?_)
        · walk_at "run"
          refine hs _ _ _ _ e6 (by omega) (by omega) fun x v6 x0 x1 => ?_
          walk_at "run"
          exact w (.put a b x) _ _ ⟨⟨t, g⟩, hb⟩ ⟨x0, x1⟩ (fr5.trans Fr.pen) su_same
        · walk_at "run"
          cases hy : eqB (.int y) (.int 15) with
          | false =>
            walk_at "run"
            exact w (.take a) _ _ ⟨t, g⟩ trivial fr5 e6
          | true =>
            walk_at "run"
            exact w (.fall a) _ _ ⟨t, g⟩ trivial fr5 e6
  have beg : ∀ v' S2, Fr p S S2 → S2 p = some (.lst [.int v']) → (s.atts.length : Int) < most → Q (.d (.tup [.str sBegin, .int (((s.atts.length : Nat) : Int) * 3 % most)])) S2 := fun v' S2 fr hv l =>
    w (.begin (keyOf most s.atts.length)) v' S2 (keyed_new hm kd l) ⟨l, rfl⟩ fr hv
  have non : ∀ v' S2, Fr p S S2 → S2 p = some (.lst [.int v']) → going = [] → DL.wpS T c (sqn 3 f_law_drawn_call.body) [some (.d (.ref p)), some (.d (.tup [.int m, .int wh])), some (.d (.ref (L .k))), some (.d (.int most)), some (.vl (going.map D.int)), none, some (.d (.int (s.atts.length : Nat))), none, none] S2 (fun _ S' => Q (.d .non) S') Q (fun _ _ => False) (fun _ _ => False) := by
    intro v' S2 fr hv he
    walk_at "run"
    rw [ee, decide_eq_true he]
    refine Br.tt ?_
    walk_at "run"
    exact w0 _ _ fr hv (gemp he)
  have mul3 : -(2 ^ 64) < (3 : Int) ∧ (3 : Int) < 2 ^ 64 := by decide
  have lm : ((s.atts.map fun (e : Int × Att) => (D.int e.1, D.ref (L (.i e.1)))).length : Int) = (s.atts.length : Int) := by rw [List.length_map]
  walk_at "run"
  rw [List.length_map]
  refine Br.mk (fun q => ?_) (fun q => ?_)
  · have q : (s.atts.length : Int) < most := of_decide_eq_true q
    walk_at "run"
    rw [ee]
    by_cases he : going = []
    · rw [decide_eq_true he]
      refine Br.tt (Br.tt ?_)
      refine ⟨_, rfl, ⟨.inl (.inr mul3), ⟨_, rfl, ⟨by omega, ?_⟩⟩⟩⟩
      exact ⟨_, rfl, Nat.le_of_ble_eq_true rfl, beg _ _ Fr.refl hw q⟩
    · rw [decide_eq_false he]
      refine Br.ff ?_
      walk_at "run"
      refine hs _ _ _ _ hw (by decide) (by decide) fun x v6 x0 x1 => ?_
      walk_at "run"
      refine Br.mk (fun q2 => ?_) (fun q2 => gen _ _ Fr.pen su_same he)
      refine ⟨_, rfl, ⟨.inl (.inr mul3), ⟨_, rfl, ⟨by omega, ?_⟩⟩⟩⟩
      exact ⟨_, rfl, Nat.le_of_ble_eq_true rfl, beg _ _ Fr.pen su_same q⟩
  · refine Br.ff ?_
    by_cases he : going = []
    · exact non _ _ Fr.refl hw he
    · exact gen _ _ Fr.refl hw he
end LU

/-! M8: what calls tell; both keepers stand alike. -/
namespace LU
open PySem L2 PySem.Spec PyProof.Rows DL LW
local macro_rules | `(tactic| walk_at "s1") => `(tactic| first | with_reducible refine one1_i ?_ | with_reducible refine storD ?_ | with_reducible refine storV ?_ | with_reducible refine storVd ?_ | with_reducible refine bxD ?_ | refine ⟨_, rfl, ?_⟩ | refine ⟨_, _, rfl, by assumption, ?_⟩ | refine ⟨_, _, _, rfl, by assumption, rfl, ?_⟩ | refine ⟨_, by assumption, ?_⟩ | refine ⟨rfl, ?_⟩ | refine ⟨.inl rfl, ?_⟩ | refine ⟨Nat.le_of_ble_eq_true rfl, ?_⟩)
local macro_rules | `(tactic| walk_at "go") => `(tactic| (walk_at "s1"; repeat ((fail_if_success with_reducible refine isS ?_); walk_at "s1")))
local macro_rules | `(tactic| walk_at "run") => `(tactic| repeat walk_at "s1")
inductive ResK : D → Prop where
  | non : ResK .non
  | done : ResK (.str sDone)
  | falls : ResK (.str sFalls)
  | taken : ResK (.str sTaken)
  | written : ResK (.str sWritten)
  | num (v : Int) : ResK (rNum v)
  | rf : ResK rFalls
theorem onA_res {s : Ks} {a : Int} {f : Att → Ks × D} (h : ∀ t, ResK (f t).2) : ResK (onA s a f).2 := by
  unfold onA
  split
  · exact h _
  · exact .non
theorem step_res (s : Ks) (c : Cl) : ResK (s.step c).2 := by
  cases c with
  | begin a => exact .non
  | look a b =>
    refine onA_res fun t => ?_
    unfold Ks.look
    split
    · exact .num _
    · split
      · exact .rf
      · exact .num _
  | put a b v => exact onA_res fun t => .non
  | take a =>
    refine onA_res fun t => ?_
    unfold Ks.take
    split
    · exact .done
    · split
      · exact .taken
      · exact .falls
  | write a =>
    refine onA_res fun t => ?_
    unfold Ks.write
    split
    · exact .non
    · split
      · exact .done
      · exact .written
  | fall a => exact onA_res fun t => .non
theorem setA_keys {s : Ks} {a : Int} {t t' : Att} (h : pget s.atts a = some t) : (s.setA a t').atts.map Prod.fst = s.atts.map Prod.fst := pput_fst (fun z => z) (by rw [h]; rfl)
theorem step_keys {s : Ks} {c : Cl} (f : c.fit s) (h : ∀ a, c ≠ .begin a) : (s.step c).1.atts.map Prod.fst = s.atts.map Prod.fst := by
  cases c with
  | begin a => exact (h a rfl).elim
  | look a b =>
    obtain ⟨⟨t, g⟩, hb⟩ := f
    show (onA s a _).1.atts.map _ = _
    unfold onA; rw [g.g]; show (s.look a t b).1.atts.map _ = _
    unfold Ks.look
    split
    · rfl
    · split <;> exact setA_keys g.g
  | put a b v =>
    obtain ⟨⟨t, g⟩, hb⟩ := f
    show (onA s a _).1.atts.map _ = _
    unfold onA; rw [g.g]; exact setA_keys g.g
  | take a =>
    obtain ⟨t, g⟩ := f
    show (onA s a _).1.atts.map _ = _
    unfold onA; rw [g.g]; show (s.take a t).1.atts.map _ = _
    unfold Ks.take
    split
    · exact setA_keys g.g
    · split
      · exact setA_keys (s := { s with time := s.time + 1 }) g.g
      · exact setA_keys g.g
  | write a =>
    obtain ⟨t, z, g, _⟩ := f
    show (onA s a _).1.atts.map _ = _
    unfold onA; rw [g]; show (s.write a t).1.atts.map _ = _
    unfold Ks.write
    split
    · rfl
    · rename_i b r hl
      have e : (s.wrote a t b r).atts.map Prod.fst = s.atts.map Prod.fst := setA_keys (s := { s with boxes := s.boxes.set b.toNat ((pget t.puts b).getD 0), marks := s.marks.set b.toNat (t.stamp.getD 0) }) g
      split
      · exact (setA_keys (s := (s.wrote a t b r).holds t.keys none) setA_get).trans e
      · exact e
  | fall a =>
    obtain ⟨t, g⟩ := f
    show (onA s a _).1.atts.map _ = _
    unfold onA; rw [g.g]; exact setA_keys g.g
theorem Keyed.step {most wh : Int} {s : Ks} {c : Cl} (k : Keyed most s) (f : c.fit s) (d : c.drawn most wh s) : Keyed most (s.step c).1 := by
  by_cases h : ∃ a, c = .begin a
  · obtain ⟨a, rfl⟩ := h
    have e : (s.step (.begin a)).1.atts = s.atts ++ [(a, ⟨s.time, [], [], [], none, true⟩)] := pput_new f
    refine ⟨?_, ?_⟩
    · rw [e, List.map_append, List.length_append, List.length_singleton, List.range_succ, List.map_append, k.k]
      show _ ++ [a] = _ ++ [keyOf most s.atts.length]
      rw [d.2]
    · rw [e, List.length_append, List.length_singleton]
      have := d.1
      omega
  · have e := step_keys f fun a q => h ⟨a, q⟩
    have el : (s.step c).1.atts.length = s.atts.length := by have := congrArg List.length e; simpa using this
    exact ⟨by rw [e, el]; exact k.k, by rw [el]; exact k.l⟩
theorem Keyed.new {most : Int} (h : 0 ≤ most) {wd : D} {st : List Int} : Keyed most (Ks.new wd st) := ⟨rfl, h⟩
theorem step_boxes {s : Ks} {c : Cl} : (s.step c).1.boxes.length = s.boxes.length := by
  cases c with
  | begin a => rfl
  | look a b =>
    show (onA s a _).1.boxes.length = _
    unfold onA
    split
    · show (Ks.look s a _ b).1.boxes.length = _
      unfold Ks.look
      split
      · rfl
      · split <;> rfl
    · rfl
  | put a b v => show (onA s a _).1.boxes.length = _; unfold onA; split <;> rfl
  | take a =>
    show (onA s a _).1.boxes.length = _
    unfold onA
    split
    · show (Ks.take s a _).1.boxes.length = _
      unfold Ks.take
      split
      · rfl
      · split <;> rfl
    · rfl
  | write a =>
    show (onA s a _).1.boxes.length = _
    unfold onA
    split
    · show (Ks.write s a _).1.boxes.length = _
      unfold Ks.write
      split
      · rfl
      · split <;> exact List.length_set
    · rfl
  | fall a => show (onA s a _).1.boxes.length = _; unfold onA; split <;> rfl
structure KpT4 (T : Tbl) : Prop where
  f192 : T.fn 192 = some f_Keeper_log
  f193 : T.fn 193 = some f_Keeper_order
  f194 : T.fn 194 = some f_Keeper_now
  f195 : T.fn 195 = some f_Keeper_clock
  f196 : T.fn 196 = some f_Keeper_mark
  c192 : T.fcls 192 = 10
  c193 : T.fcls 193 = 10
  c194 : T.fcls 194 = 10
  c195 : T.fcls 195 = 10
  c196 : T.fcls 196 = 10
theorem eqB_tups (l : List Int) : eqB (.tup (l.map D.int)) (.tup (l.map D.int)) = true := by
  show eqBs _ _ = true
  rw [eqBs_ints]; simp
theorem pln_tups (l : List Int) : pln (.tup (l.map D.int)) = true := pls_ints 59 l
theorem stands_ok {T : Tbl} (k4 : KpT4 T) (h148 : T.fn 148 = some f_law_whole) (h206 : T.fn 206 = some f_law_order) {k : Nat} (hT : T.fn k = some f_law_stands) (n : Nat) {N : Nat} {S : Hs} {L M : Role → Addr} {s : Ks} {Q : VK2}
    (h : KAt S L s) (g : MAt S M s) (iv : Kinv s) (wf : Kwf N s) (hN : N ≤ 50000) (w : Q (.d (.bl true)) S) : cal T (n + 2) k [.d (.ref (L .k)), .d (.ref (M .k))] S Q := by
  refine ⟨_, hT, rfl, rfl, ?_⟩
  have c1 := fun (b : Int) Q hb => kmark_ok n (b := b) (Q := Q) k4.f196 h wf hb
  have c2 := fun Q => know_ok n (Q := Q) k4.f194 h
  have c3 := fun Q => kclock_ok n (Q := Q) k4.f195 h
  have c4 := fun Q => klog_ok n (Q := Q) k4.f192 h
  have c5 := fun Q => korder_ok k4.f193 n (Q := Q) h wf hN
  have c6 := fun Q => order_law_ok h206 n (Q := Q) g iv wf hN
  have c7 := fun (x : Int) Q => whole_ok h148 n (S := S) (x := x) (Q := Q)
  generalize cal T (n + 1) = c at c1 c2 c3 c4 c5 c6 c7 ⊢
  have mk := g.gk
  have mm := g.gm
  have mb := g.gb
  have me := g.gev
  have g1 := h.rd.gkc k4.c192
  have g2 := h.rd.gkc k4.c193
  have g3 := h.rd.gkc k4.c194
  have g4 := h.rd.gkc k4.c195
  have g5 := h.rd.gkc k4.c196
  have ml := wf.ml
  have bl := wf.bl
  walk_at "run"
  refine ⟨by rw [List.length_map]; omega, by rw [List.length_map]; omega, ?_⟩
  have er : rngD 0 (((s.marks.map D.int).length : Nat) : Int).toNat = (upTo s.marks.length).map D.int := by
    rw [rngD_ints, List.length_map]
    rfl
  refine compL_fm' D.int (fun b => some (.int (s.mark b))) (upTo s.marks.length) er trivial (fun b hb P1 P2 h1 _ => ?_) ?_ ?_
  · have hb := upTo_mem.mp hb
    refine Br.tt ?_
    walk_at "run"
    exact c1 b _ ⟨hb.1, by rw [← ml]; exact hb.2⟩ (h1 _ rfl)
  · rw [upTo_len]
    exact Nat.le_trans (show ((s.marks.length : Nat) : Int).toNat ≤ 60 by omega) (by decide)
  have em : (upTo s.marks.length).filterMap (fun b => some (D.int (s.mark b))) = s.marks.map D.int := by
    rw [List.filterMap_eq_map', show (fun b => D.int (s.mark b)) = D.int ∘ s.mark from rfl, ← List.map_map]
    congr 1
    refine List.ext_getElem (by rw [List.length_map, upTo_len]; omega) fun i h1 h2 => ?_
    rw [List.getElem_map]
    unfold upTo
    rw [List.getElem_map, List.getElem_range]
    show s.marks.getD _ 0 = _
    rw [List.getD_eq_getElem?_getD, show (((i : Nat) : Int)).toNat = i by omega, List.getElem?_eq_getElem h2]; rfl
  rw [em]
  have eqm : eqBs (s.marks.map D.int) (s.marks.map D.int) = true := by rw [eqBs_ints]; simp
  have plm := pls_ints 60 s.marks
  walk_at "run"
  refine c2 _ ?_
  walk_at "run"
  refine ⟨pln_tups _, pln_tups _, ?_⟩
  rw [eqB_tups]
  refine Br.ff ?_
  walk_at "run"
  refine ⟨.inr ⟨plm, plm⟩, ?_⟩
  rw [eqm]
  refine Br.ff ?_
  walk_at "run"
  refine c3 _ ?_
  walk_at "run"
  have et : (!eqB (.int s.time) (.int s.time)) = false := by rw [eqB_refl 60 (.int s.time) rfl]; rfl
  refine Br.of false et ?_
  rw [if_neg (by decide)]
  walk_at "run"
  refine c3 _ ?_
  walk_at "run"
  refine ⟨by rw [List.length_map]; exact Nat.le_trans (show s.marks.length + 1 ≤ 61 by omega) (by decide), ?_⟩
  have e1 : s.marks.map D.int ++ [D.int s.time] = (s.marks ++ [s.time]).map D.int := by rw [List.map_append]; rfl
  rw [e1]
  refine compL_fm' D.int (fun _ => some (.bl true)) (s.marks ++ [s.time]) rfl trivial (fun b _ P1 P2 h1 _ => ?_) ?_ ?_
  · refine Br.tt ?_
    walk_at "run"
    exact c7 _ _ (h1 _ rfl)
  · rw [List.length_append]
    exact Nat.le_trans (show s.marks.length + 1 ≤ 61 by omega) (by decide)
  refine ⟨_, (s.marks ++ [s.time]).map fun _ => true, rfl, by rw [List.map_map, List.filterMap_eq_map']; rfl, ?_⟩
  have ea : ((s.marks ++ [s.time]).map fun _ => true).all id = true := by simp
  rw [ea]
  refine Br.ff ?_
  walk_at "go"
  refine ⟨by decide, by decide, ?_⟩
  have eqv : eqBs s.events s.events = true := eqBs_refl 60 _ wf.epl
  have eqo : eqBs (s.order.map D.int) (s.order.map D.int) = true := by rw [eqBs_ints]; simp
  have plo := pls_ints 60 s.order
  have ol : (s.order.map D.int).length < sizeLine := by
    rw [List.length_map]
    unfold Ks.order
    rw [List.length_map, (srtR_perm _).length_eq]
    unfold Ks.rows
    rw [rowsAt_len]
    exact Nat.lt_of_le_of_lt (Nat.le_trans wf.al hN) (by decide)
  have el : s.events.length < sizeLine := Nat.lt_of_le_of_lt (Nat.le_trans wf.el hN) (by decide)
  refine forL_inv (fun σ S' => ∃ (s3 s4 s5 s6 s7 : Option Vx), σ = [some (.d (.ref (L .k))), some (.d (.ref (M .k))), some (.vl (s.marks.map D.int)), s3, s4, s5, s6, s7] ∧ S = S') (fun _ _ _ => trivial) ?_ _ ?_ _ _ ⟨_, _, _, _, _, rfl, rfl⟩
  · rintro σ S' ⟨s3, s4, s5, s6, s7, rfl, rfl⟩
    walk_at "run"
    exact w
  · rintro x hx kk σ S' hk ⟨s3, s4, s5, s6, s7, rfl, rfl⟩
    show DL.wpS _ _ _ _ _ _ _ _ _
    walk_at "go"
    refine c4 _ ?_
    walk_at "run"
    refine c5 _ ?_
    walk_at "run"
    refine Br.ff ?_
    walk_at "run"
    refine ⟨.inr ⟨wf.epl, wf.epl⟩, ?_⟩
    rw [eqv]
    refine Br.ff ?_
    walk_at "run"
    refine Br.ff ?_
    walk_at "run"
    refine c6 _ ?_
    walk_at "run"
    refine ⟨.inr ⟨plo, plo⟩, ?_⟩
    rw [eqo]
    refine Br.ff ?_
    walk_at "run"
    refine ⟨el, ?_⟩
    walk_at "run"
    refine ⟨ol, ?_⟩
    exact hk _ _ ⟨_, _, _, _, _, rfl, rfl⟩
end LU

/-! N1: phases of attempts, rows of calls. -/
namespace LU
open PySem L2 PySem.Spec PyProof.Rows DL LW
local macro_rules | `(tactic| walk_at "s1") => `(tactic| first | with_reducible refine one1_i ?_ | with_reducible refine storD ?_ | with_reducible refine storV ?_ | with_reducible refine storVd ?_ | with_reducible refine bxD ?_ | refine ⟨_, rfl, ?_⟩ | refine ⟨_, _, rfl, by assumption, ?_⟩ | refine ⟨_, _, _, rfl, by assumption, rfl, ?_⟩ | refine ⟨_, by assumption, ?_⟩ | refine ⟨rfl, ?_⟩ | refine ⟨.inl rfl, ?_⟩ | refine ⟨Nat.le_of_ble_eq_true rfl, ?_⟩)
local macro_rules | `(tactic| walk_at "go") => `(tactic| (walk_at "s1"; repeat ((fail_if_success with_reducible refine isS ?_); walk_at "s1")))
local macro_rules | `(tactic| walk_at "run") => `(tactic| repeat walk_at "s1")
abbrev sOn : List Nat := [111, 110]
abbrev sOff : List Nat := [111, 102, 102]
def phOf (t : Att) : List Nat := if t.opn = true then (if t.stamp.isSome = true then sTaken else sOn) else sOff
def phD (s : Ks) : List (D × D) := encI D.str (s.atts.map fun e => (e.1, phOf e.2))
theorem pget_mapv {α β : Type} (f : α → β) : ∀ (l : List (Int × α)) (a : Int), pget (l.map fun e => (e.1, f e.2)) a = (pget l a).map f
  | [], a => rfl
  | (k, v) :: r, a => by
    show (if k = a then some (f v) else pget (r.map fun e => (e.1, f e.2)) a) = (if k = a then some v else pget r a).map f
    by_cases h : k = a
    · rw [if_pos h, if_pos h]; rfl
    · rw [if_neg h, if_neg h, pget_mapv f r a]
theorem pput_mapv {α β : Type} (f : α → β) (l : List (Int × α)) (a : Int) (v : α) : pput (l.map fun e => (e.1, f e.2)) a (f v) = (pput l a v).map fun e => (e.1, f e.2) := by
  unfold pput
  rw [pget_mapv]
  cases h : pget l a with
  | none => simp
  | some x =>
    simp only [Option.map_some, Option.isSome_some, if_true, List.map_map]
    refine List.map_congr_left fun e _ => ?_
    show (if e.1 = a then (e.1, f v) else (e.1, f e.2)) = ((if e.1 = a then (e.1, v) else e).1, f (if e.1 = a then (e.1, v) else e).2)
    split <;> rfl
theorem phD_get {s : Ks} {a : Int} {t : Att} (h : pget s.atts a = some t) : dget (phD s) (.int a) = some (.str (phOf t)) := by
  unfold phD
  rw [dget_enc, pget_mapv, h]; rfl
theorem phD_put {s : Ks} {a : Int} {t : Att} {w : List Nat} (h : phOf t = w) : dput (phD s) (.int a) (.str w) = phD { s with atts := pput s.atts a t } := by
  subst h
  unfold phD
  rw [dput_enc, pput_mapv]
theorem phD_congr {s s' : Ks} (h : s'.atts.map (fun e => (e.1, phOf e.2)) = s.atts.map fun e => (e.1, phOf e.2)) : phD s' = phD s := by unfold phD; rw [h]
theorem phD_same {s : Ks} {a : Int} {t t' : Att} (nd : (s.atts.map Prod.fst).Nodup) (h : pget s.atts a = some t) (e : phOf t' = phOf t) : phD (s.setA a t') = phD s := by
  refine phD_congr ?_
  show (pput s.atts a t').map (fun e => (e.1, phOf e.2)) = _
  unfold pput
  rw [h]
  simp only [Option.isSome_some, if_true, List.map_map]
  refine List.map_congr_left fun x hx => ?_
  show ((if x.1 = a then (x.1, t') else x).1, phOf (if x.1 = a then (x.1, t') else x).2) = (x.1, phOf x.2)
  by_cases z : x.1 = a
  · rw [if_pos z]
    have := pget_of nd hx
    rw [z, h] at this
    cases this
    rw [e]
  · rw [if_neg z]
theorem phD_len (s : Ks) : (phD s).length = s.atts.length := by unfold phD encI; rw [List.length_map, List.length_map]
theorem phD_fst (s : Ks) : (phD s).map Prod.fst = (s.atts.map Prod.fst).map D.int := by unfold phD encI; rw [List.map_map, List.map_map, List.map_map]; rfl
/-- rows of calls -/
def runC : Ks → List Cl → Ks × List D
  | s, [] => (s, [])
  | s, c :: cs => ((runC (s.step c).1 cs).1, (s.step c).2 :: (runC (s.step c).1 cs).2)
def fitC : Ks → List Cl → Prop
  | _, [] => True
  | s, c :: cs => c.fit s ∧ (∀ a, c ≠ .fall a) ∧ fitC (s.step c).1 cs
theorem runC_app : ∀ (cs ds : List Cl) (s : Ks), runC s (cs ++ ds) = ((runC (runC s cs).1 ds).1, (runC s cs).2 ++ (runC (runC s cs).1 ds).2)
  | [], ds, s => rfl
  | c :: cs, ds, s => by
    show ((runC (s.step c).1 (cs ++ ds)).1, (s.step c).2 :: (runC (s.step c).1 (cs ++ ds)).2) = _
    rw [runC_app cs ds]; rfl
theorem fitC_app : ∀ (cs ds : List Cl) (s : Ks), fitC s (cs ++ ds) ↔ fitC s cs ∧ fitC (runC s cs).1 ds
  | [], ds, s => ⟨fun h => ⟨trivial, h⟩, fun h => h.2⟩
  | c :: cs, ds, s => by
    have ih := fitC_app cs ds (s.step c).1
    show c.fit s ∧ (∀ a, c ≠ .fall a) ∧ fitC (s.step c).1 (cs ++ ds) ↔ (c.fit s ∧ (∀ a, c ≠ .fall a) ∧ fitC (s.step c).1 cs) ∧ fitC (runC (s.step c).1 cs).1 ds
    rw [ih]
    exact ⟨fun h => ⟨⟨h.1, h.2.1, h.2.2.1⟩, h.2.2.2⟩, fun h => ⟨h.1.1, h.1.2.1, h.1.2.2, h.2⟩⟩
theorem runC_len : ∀ (cs : List Cl) (s : Ks), (runC s cs).2.length = cs.length
  | [], _ => rfl
  | c :: cs, s => by show (runC (s.step c).1 cs).2.length + 1 = _; rw [runC_len cs]; rfl
theorem runC_res : ∀ (cs : List Cl) (s : Ks), ∀ d ∈ (runC s cs).2, ResK d
  | [], _, d, h => by cases h
  | c :: cs, s, d, h => by
    rcases List.mem_cons.mp h with e | h
    · rw [e]; exact step_res s c
    · exact runC_res cs _ d h
theorem res_pln1 {d : D} (h : ResK d) : pln d = true := by cases h <;> rfl
theorem plns_res {l : List D} (h : ∀ d ∈ l, ResK d) : plns l = true := by
  show pls 60 l = true
  induction l with
  | nil => simp [pls]
  | cons d l ih =>
    simp only [pls, Bool.and_eq_true]
    exact ⟨res_pln1 (h d List.mem_cons_self), ih fun x hx => h x (List.mem_cons_of_mem _ hx)⟩
theorem plns_cl (l : List Cl) : plns (l.map Cl.d) = true := by
  show pls 60 _ = true
  induction l with
  | nil => simp [pls]
  | cons d l ih =>
    rw [List.map_cons]
    simp only [pls, Bool.and_eq_true]
    exact ⟨by cases d <;> rfl, ih⟩
end LU

/-! N2: the next call drawn by phases. -/
namespace LU
open PySem L2 PySem.Spec PyProof.Rows DL LW
local macro_rules | `(tactic| walk_at "s1") => `(tactic| first | with_reducible refine one1_i ?_ | with_reducible refine storD ?_ | with_reducible refine storV ?_ | with_reducible refine storVd ?_ | with_reducible refine bxD ?_ | refine ⟨_, rfl, ?_⟩ | refine ⟨_, _, rfl, by assumption, ?_⟩ | refine ⟨_, _, _, rfl, by assumption, rfl, ?_⟩ | refine ⟨_, by assumption, ?_⟩ | refine ⟨rfl, ?_⟩ | refine ⟨.inl rfl, ?_⟩ | refine ⟨Nat.le_of_ble_eq_true rfl, ?_⟩)
local macro_rules | `(tactic| walk_at "go") => `(tactic| (walk_at "s1"; repeat ((fail_if_success with_reducible refine isS ?_); walk_at "s1")))
local macro_rules | `(tactic| walk_at "run") => `(tactic| repeat walk_at "s1")
def phC (s : Ks) : Cl → List (D × D)
  | .begin a => phD (s.begin a)
  | _ => phD s
theorem ph_on {t : Att} (h : phOf t ≠ sOff) : t.opn = true := by
  unfold phOf at h
  cases q : t.opn with
  | true => rfl
  | false => rw [q] at h; exact (h (if_neg (by decide))).elim
theorem ph_tk {t : Att} (ho : t.opn = true) : phOf t = if t.stamp.isSome = true then sTaken else sOn := by unfold phOf; rw [if_pos ho]
structure Fr2 (p q : Addr) (S S' : Hs) : Prop where
  f : ∀ b o, S b = some o → b ≠ p → b ≠ q → S' b = some o
theorem Fr2.of {p q : Addr} {S S' : Hs} (h : Fr p S S') : Fr2 p q S S' := ⟨fun b o e n _ => h b o e n⟩
theorem phase_next_ok {T : Tbl} (h7 : T.fn 147 = some f_law_sip) {k : Nat} (hT : T.fn k = some f_law_next_2) (n : Nat) {N : Nat} {S : Hs} {p ph : Addr} {v m wh : Int} {s : Ks} {Q : VK2} (hw : S p = some (.lst [.int v])) (hph : S ph = some (.dic (phD s)))
    (iv : Kinv s) (wf : Kwf N s) (hN : N ≤ 4000) (kd : s.atts.map Prod.fst = (List.range s.atts.length).map fun (i : Nat) => (i : Int)) (hbl : (s.boxes.length : Int) = m) (m1 : 1 ≤ m) (hwh : 1 ≤ wh ∧ wh ≤ 1000)
    (w0 : ∀ v' S', Fr p S S' → S' p = some (.lst [.int v']) → Q (.d .non) S')
    (w : ∀ (c : Cl) v' S', c.fit s → (∀ a, c ≠ .fall a) → (∀ a, c = .begin a → a = (s.atts.length : Nat) ∧ s.atts.length < 6) → Fr2 p ph S S' → S' p = some (.lst [.int v']) → S' ph = some (.dic (phC s c)) → Q (.d c.d) S') :
    cal T (n + 2) k [.d (.ref p), .d (.tup [.int m, .int wh]), .d (.ref ph)] S Q := by
  refine ⟨_, hT, rfl, rfl, ?_⟩
  have hs := fun (S : Hs) (v m : Int) Q (h : S p = some (.lst [.int v])) => sip_ok h7 n (m := m) (Q := Q) h
  generalize cal T (n + 1) = c at hs ⊢
  have nph : ph ≠ p := fun e => by rw [e, hw] at hph; cases hph
  have mb : m ≤ 60 := by have := wf.bl; omega
  refine ⟨ph, _, hph, fun ho => ?_⟩
  have ea : (su S ph (.fdc (phD s) ho)) ph = some (.fdc (phD s) ho) := su_same
  have back : su (su S ph (.fdc (phD s) ho)) ph (.dic (phD s)) = S := by rw [su_su, su_id hph]
  generalize su S ph (.fdc (phD s) ho) = S1 at ea back ⊢
  walk_at "run"
  have el : (phD s).map Prod.fst = s.atts.map fun e => D.int e.1 := by rw [phD_fst, List.map_map]; rfl
  refine ⟨_, _, _, rfl, ea, ?_⟩
  refine compL_fm' (fun (e : Int × Att) => D.int e.1) (fun e => if decide (phOf e.2 ≠ sOff) = true then some (.int e.1) else none) s.atts el ea (fun e he P1 P2 h1 h2 => ?_) ?_ ?_
  · have hg := pget_of wf.an he
    have gd := phD_get hg
    walk_at "run"
    have hpl : pln (.str (phOf e.2)) = true := by unfold phOf; split <;> (try split) <;> rfl
    refine ⟨hpl, rfl, ?_⟩
    have e1 : (!eqB (.str (phOf e.2)) (.str sOff)) = decide (phOf e.2 ≠ sOff) := by
      show (!decide (phOf e.2 = sOff)) = _
      simp
    refine Br.of _ e1 ?_
    split
    · rename_i q; exact ⟨_, rfl, h1 _ (if_pos q)⟩
    · rename_i q; exact h2 (if_neg q)
  · exact Nat.le_trans wf.al (Nat.le_trans hN (by decide))
  have eg : ∀ l : List (Int × Att), (l.filterMap fun e => if decide (phOf e.2 ≠ sOff) = true then some (D.int e.1) else none) = ((l.filter fun e => decide (phOf e.2 ≠ sOff)).map Prod.fst).map D.int := by
    intro l
    induction l with
    | nil => rfl
    | cons e l ih =>
      rw [List.filterMap_cons, List.filter_cons]
      by_cases q : decide (phOf e.2 ≠ sOff) = true
      · rw [if_pos q, if_pos q, ih]; rfl
      · rw [if_neg q, if_neg q, ih]
  rw [eg]
  refine ⟨ea, ?_⟩
  rw [back]
  clear ea back
  have gmem : ∀ a ∈ (s.atts.filter fun e => decide (phOf e.2 ≠ sOff)).map Prod.fst, ∃ t, pget s.atts a = some t ∧ t.opn = true := fun a ha => by
    obtain ⟨e, he, rfl⟩ := List.mem_map.mp ha
    obtain ⟨he, ho⟩ := List.mem_filter.mp he
    exact ⟨e.2, pget_of wf.an he, ph_on (of_decide_eq_true ho)⟩
  have glen : ((s.atts.filter fun e => decide (phOf e.2 ≠ sOff)).map Prod.fst).length ≤ 4000 := by
    rw [List.length_map]
    exact Nat.le_trans (List.length_filter_le _ _) (Nat.le_trans wf.al hN)
  generalize (s.atts.filter fun e => decide (phOf e.2 ≠ sOff)).map Prod.fst = going at gmem glen ⊢
  have ee : eqBs (going.map D.int) [] = decide (going = []) := by cases going <;> rfl
  have gen : (∀ v' S2, Fr p S S2 → S2 p = some (.lst [.int v']) → DL.wpS T c (sqn 2 f_law_next_2.body) [some (.d (.ref p)), some (.d (.tup [.int m, .int wh])), some (.d (.ref ph)), some (.vl (going.map D.int)), none, none, none] S2 (fun _ S' => Q (.d .non) S') Q (fun _ _ => False) (fun _ _ => False)) := by
    intro v' S2 fr hv
    have hph2 := fr ph _ hph nph
    walk_at "run"
    rw [ee]
    by_cases hne : going = []
    · rw [decide_eq_true hne]
      exact Br.tt (w0 _ _ fr hv)
    rw [decide_eq_false hne]
    refine Br.ff ?_
    walk_at "run"
    have gpos : 0 < going.length := List.length_pos_iff.mpr hne
    refine hs _ _ _ _ hv (by rw [List.length_map]; omega) (by rw [List.length_map]; omega) fun d v3 d0 d1 => ?_
    rw [List.length_map] at d1
    refine idx_ints (l := going) d0 d1 fun a ha => ?_
    obtain ⟨t, ga, ho⟩ := gmem a ha
    walk_at "run"
    refine hs _ _ _ _ su_same (by omega) (by omega) fun b v4 b0 b1 => ?_
    rw [su_su]
    have fr4 := fr.trans (Fr.pen (S := S2) (o := .lst [.int v4]))
    have e4 : (su S2 p (.lst [.int v4])) p = some (.lst [.int v4]) := su_same
    generalize su S2 p (.lst [.int v4]) = S4 at fr4 e4 ⊢
    have hph4 := fr4 ph _ hph nph
    have gd := phD_get ga
    have hb : inR s b := ⟨b0, by rw [hbl]; exact b1⟩
    have pt := ph_tk ho
    walk_at "run"
    cases hst : t.stamp with
    | some z =>
      rw [hst] at pt
      rw [show phOf t = sTaken from pt]
      refine ⟨rfl, rfl, Br.tt ?_⟩
      walk_at "run"
      exact w (.write a) _ _ ⟨t, z, ga, ho, hst⟩ nofun nofun (.of fr4) e4 hph4
    | none =>
      have g : Going s a t := ⟨ga, ho, hst⟩
      rw [hst] at pt
      rw [show phOf t = sOn from pt]
      refine ⟨rfl, rfl, Br.ff ?_⟩
      walk_at "run"
      refine hs _ _ _ _ e4 (by decide) (by decide) fun y v5 y0 y1 => ?_
      have fr5 := fr4.trans (Fr.pen (S := S4) (o := .lst [.int v5]))
      have e6 : (su S4 p (.lst [.int v5])) p = some (.lst [.int v5]) := su_same
      generalize su S4 p (.lst [.int v5]) = S5 at fr5 e6 ⊢
      have hph5 := fr5 ph _ hph nph
      walk_at "run"
      refine Br.mk (fun q => ?_) (fun q => ?_)
      · walk_at "run"
        exact w (.look a b) _ _ ⟨⟨t, g⟩, hb⟩ nofun nofun (.of fr5) e6 hph5
      · walk_at "run"
        refine Br.mk (fun q => ?_) (fun q => ?_)
        · walk_at "run"
          refine hs _ _ _ _ e6 (by omega) (by omega) fun x v6 x0 x1 => ?_
          walk_at "run"
          have fr6 := fr5.trans (Fr.pen (S := S5) (o := .lst [.int v6]))
          exact w (.put a b x) _ _ ⟨⟨t, g⟩, hb⟩ nofun nofun (.of fr6) su_same (fr6 ph _ hph nph)
        · walk_at "run"
          exact w (.take a) _ _ ⟨t, g⟩ nofun nofun (.of fr5) e6 hph5
  have beg : ∀ v' S2, Fr p S S2 → S2 p = some (.lst [.int v']) → s.atts.length < 6 → DL.wpS T c (.seq (.seti (.v 2) (.o1 .len (.v 2)) (.s [111, 110])) (.ret (.tup (.consb (.s [98, 101, 103, 105, 110]) (.consb (.o2 .sub (.o1 .len (.v 2)) (.i 1)) .nil)))))
      [some (.d (.ref p)), some (.d (.tup [.int m, .int wh])), some (.d (.ref ph)), some (.vl (going.map D.int)), none, none, none] S2 (fun σ' S' => DL.wpS T c (sqn 2 f_law_next_2.body) σ' S' (fun _ S' => Q (.d .non) S') Q (fun _ _ => False) (fun _ _ => False)) Q (fun _ _ => False) (fun _ _ => False) := by
    intro v' S2 fr hv hl
    have hph2 := fr ph _ hph nph
    walk_at "run"
    rw [phD_len]
    refine ⟨Nat.lt_of_lt_of_le (show s.atts.length < 6 from hl) (by decide), ?_⟩
    have en : dput (phD s) (.int ((s.atts.length : Nat) : Int)) (.str [111, 110]) = phD (s.begin (s.atts.length : Nat)) := phD_put (t := ⟨s.time, [], [], [], none, true⟩) rfl
    rw [en]
    walk_at "s1"
    have hl2 : (phD (s.begin (s.atts.length : Nat))).length = s.atts.length + 1 := by
      rw [phD_len]
      show (pput s.atts _ _).length = _
      rw [pput_new, List.length_append]; rfl
      refine pget_none.mpr fun e he q => ?_
      have : e.1 ∈ s.atts.map Prod.fst := List.mem_map_of_mem he
      rw [kd] at this
      obtain ⟨i, hi, e2⟩ := List.mem_map.mp this
      have := List.mem_range.mp hi
      omega
    have hp3 : (su S2 ph (.dic (phD (s.begin (s.atts.length : Nat))))) ph = _ := su_same
    have fr3 : Fr2 p ph S (su S2 ph (.dic (phD (s.begin (s.atts.length : Nat))))) := ⟨fun b o e n1 n2 => by rw [su_ne n2]; exact fr b o e n1⟩
    have e3 : (su S2 ph (.dic (phD (s.begin (s.atts.length : Nat))))) p = _ := (su_ne nph.symm).trans hv
    generalize su S2 ph (.dic (phD (s.begin (s.atts.length : Nat)))) = S3 at hp3 fr3 e3 ⊢
    walk_at "run"
    rw [hl2, show ((s.atts.length + 1 : Nat) : Int) - 1 = (s.atts.length : Nat) by omega]
    refine w (.begin (s.atts.length : Nat)) v' S3 ?_ nofun (fun a e => by cases e; exact ⟨rfl, hl⟩) fr3 e3 hp3
    refine pget_none.mpr fun e he q => ?_
    have : e.1 ∈ s.atts.map Prod.fst := List.mem_map_of_mem he
    rw [kd] at this
    obtain ⟨i, hi, e2⟩ := List.mem_map.mp this
    have := List.mem_range.mp hi
    omega
  walk_at "run"
  rw [phD_len]
  refine Br.mk (fun q => ?_) (fun q => Br.ff (gen _ _ Fr.refl hw))
  have q : (s.atts.length : Int) < 6 := of_decide_eq_true q
  have q : s.atts.length < 6 := by omega
  walk_at "run"
  rw [ee]
  by_cases he : going = []
  · rw [decide_eq_true he]
    exact Br.tt (Br.tt (beg _ _ Fr.refl hw q))
  · rw [decide_eq_false he]
    refine Br.ff ?_
    walk_at "run"
    refine hs _ _ _ _ hw (by decide) (by decide) fun x v6 x0 x1 => ?_
    walk_at "run"
    exact Br.mk (fun _ => beg _ _ Fr.pen su_same q) (fun _ => gen _ _ Fr.pen su_same)
end LU

/-! N3: a keeper made; calls put to it; all that it tells; phases behind a call. -/
namespace LU
open PySem L2 PySem.Spec PyProof.Rows DL LW
local macro_rules | `(tactic| walk_at "s1") => `(tactic| first | with_reducible refine one1_i ?_ | with_reducible refine storD ?_ | with_reducible refine storV ?_ | with_reducible refine storVd ?_ | with_reducible refine bxD ?_ | refine ⟨_, rfl, ?_⟩ | refine ⟨_, _, rfl, by assumption, ?_⟩ | refine ⟨_, _, _, rfl, by assumption, rfl, ?_⟩ | refine ⟨_, by assumption, ?_⟩ | refine ⟨rfl, ?_⟩ | refine ⟨.inl rfl, ?_⟩ | refine ⟨Nat.le_of_ble_eq_true rfl, ?_⟩)
local macro_rules | `(tactic| walk_at "go") => `(tactic| (walk_at "s1"; repeat ((fail_if_success with_reducible refine isS ?_); walk_at "s1")))
local macro_rules | `(tactic| walk_at "run") => `(tactic| repeat walk_at "s1")
theorem kmake_ok {T : Tbl} (kt : KpT T) (n : Nat) {S : Hs} {wd : D} {st : List Int} {Q : VK2} (hs : st.length ≤ 60)
    (w : ∀ (S' : Hs) (L : Role → Addr), KAt S' L (Ks.new wd st) → (∀ b o, S b = some o → S' b = some o) → (∀ b, foot L (objK L (Ks.new wd st)) b → S b = none) → Q (.d (.ref (L .k))) S') :
    ∀ a, S a = none → cal T (n + 1) (T.cini 10) [.d (.ref a), .d wd, .d (.tup (st.map D.int))] (su S a (.ins 10 [])) fun r S2 => r = .d .non ∧ Q (.d (.ref a)) S2 := by
  intro x hx
  rw [kt.i10]
  refine keeper_init kt.f178 n su_same hs fun S3 l1 l2 l3 l5 l6 q0 q1 q2 q3 q5 q6 f1 f2 f3 f5 f6 d12 d13 d15 d16 d23 d25 d26 d35 d36 d56 fr3 => ⟨rfl, ?_⟩
  have x1 : x ≠ l1 := fun q => by rw [← q, su_same] at f1; cases f1
  have x2 : x ≠ l2 := fun q => by rw [← q, su_same] at f2; cases f2
  have x3 : x ≠ l3 := fun q => by rw [← q, su_same] at f3; cases f3
  have x5 : x ≠ l5 := fun q => by rw [← q, su_same] at f5; cases f5
  have x6 : x ≠ l6 := fun q => by rw [← q, su_same] at f6; cases f6
  rw [su_ne x1.symm] at f1
  rw [su_ne x2.symm] at f2
  rw [su_ne x3.symm] at f3
  rw [su_ne x5.symm] at f5
  rw [su_ne x6.symm] at f6
  obtain ⟨L, hL, kat, kn⟩ := KAt.made (S := S) q0 q1 q2 q3 q5 q6 hx f1 f2 f3 f5 f6 d12 d13 d15 d16 d23 d25 d26 d35 d36 d56 x1 x2 x3 x5 x6
  rw [← hL]
  exact w S3 L kat (fun b o e => fr3 b o (fun q => by rw [q, hx] at e; cases e) (by rw [su_ne fun q => by rw [q, hx] at e; cases e]; exact e)) kn
structure KpT5 (T : Tbl) : Prop where
  c180 : T.fcls 180 = 10
  c181 : T.fcls 181 = 10
  c186 : T.fcls 186 = 10
  c187 : T.fcls 187 = 10
  c189 : T.fcls 189 = 10
  c190 : T.fcls 190 = 10
  f187 : T.fn 187 = some f_Keeper_put
section
variable {T : Tbl} (kt : KpT T) (k3 : KpT5 T) (n : Nat) {N : Nat} {S : Hs} {L : Role → Addr} {s : Ks} {a b v : Int} {t : Att} {Q : VK2}
include kt k3
theorem put_to_ok {k : Nat} (hT : T.fn k = some f_law_put_to) (h : KAt S L s) (iv : Kinv s) (wf : Kwf N s) (hN : N ≤ 50000) {q : Cl} (fit : q.fit s) (nf : ∀ a, q ≠ .fall a)
    (w : ∀ S' L', KStep S L s S' L' (s.step q).1 → Q (.d (s.step q).2) S') : cal T (n + 5) k [.d (.ref (L .k)), .d q.d] S Q := by
  refine ⟨_, hT, rfl, rfl, ?_⟩
  have c1 := fun (a : Int) Q ha => begin_ok kt (n + 2) (a := a) (Q := Q) h wf hN ha
  have c2 := fun (a b : Int) (t : Att) Q ha ho hs hb => look_ok kt n (a := a) (b := b) (t := t) (Q := Q) h wf hN k3.c180 ha ho hs hb
  have c3 := fun (a b v : Int) (t : Att) Q ha ho hs => put_ok kt (n + 1) (a := a) (b := b) (v := v) (t := t) (Q := Q) h wf hN k3.c180 k3.f187 ha ho hs
  have c4 := fun (a : Int) (t : Att) Q ha ho hs => take_ok kt n (a := a) (t := t) (Q := Q) h wf hN k3.c180 ha ho hs
  have c5 := fun (a : Int) (t : Att) (z b : Int) (r : List Int) Q ha ho hs hl => write_ok kt (n + 2) (a := a) (t := t) (z := z) (b := b) (r := r) (Q := Q) h wf hN ha ho hs hl
  generalize cal T (n + 4) = c at c1 c2 c3 c4 c5 ⊢
  have g1 := h.rd.gkc k3.c181
  have g2 := h.rd.gkc k3.c186
  have g3 := h.rd.gkc k3.c187
  have g4 := h.rd.gkc k3.c189
  have g5 := h.rd.gkc k3.c190
  cases q with
  | begin a =>
    have ha : pget s.atts a = none := fit
    walk_at "run"
    refine Br.tt ?_
    walk_at "run"
    exact c1 a _ ha fun S' L' st => w _ _ st
  | look a b =>
    obtain ⟨⟨t, g⟩, hb⟩ := fit
    have ew : s.step (.look a b) = s.look a t b := by show onA s a _ = _; unfold onA; rw [g.g]
    rw [ew] at w
    walk_at "run"
    refine Br.ff ?_
    walk_at "run"
    refine Br.tt ?_
    walk_at "run"
    exact c2 a b t _ g.g g.o g.s hb fun S' st => w _ _ st
  | put a b v =>
    obtain ⟨⟨t, g⟩, hb⟩ := fit
    have ew : s.step (.put a b v) = (s.put a t b v, .non) := by show onA s a _ = _; unfold onA; rw [g.g]
    rw [ew] at w
    walk_at "run"
    refine Br.ff ?_
    walk_at "run"
    refine Br.ff ?_
    walk_at "run"
    refine Br.tt ?_
    walk_at "run"
    exact c3 a b v t _ g.g g.o g.s fun S' st => w _ _ st
  | take a =>
    obtain ⟨t, g⟩ := fit
    have ew : s.step (.take a) = s.take a t := by show onA s a _ = _; unfold onA; rw [g.g]
    rw [ew] at w
    walk_at "run"
    refine Br.ff ?_
    walk_at "run"
    refine Br.ff ?_
    walk_at "run"
    refine Br.ff ?_
    walk_at "run"
    refine Br.tt ?_
    walk_at "run"
    exact c4 a t _ g.g g.o g.s fun S' L' st => w _ _ st
  | write a =>
    obtain ⟨t, z, g, ho, hs⟩ := fit
    have ew : s.step (.write a) = s.write a t := by show onA s a _ = _; unfold onA; rw [g]
    rw [ew] at w
    have hl := (iv.lf a t g).mpr ⟨by rw [hs]; rfl, ho⟩
    obtain ⟨b, r, hl⟩ := List.exists_cons_of_ne_nil hl
    walk_at "run"
    refine Br.ff ?_
    walk_at "run"
    refine Br.ff ?_
    walk_at "run"
    refine Br.ff ?_
    walk_at "run"
    refine Br.ff ?_
    walk_at "run"
    exact c5 a t z b r _ g ho hs hl fun S' st => w _ _ st
  | fall a => exact (nf a rfl).elim
end
theorem At.grow {ρ : Type} {S S' : Hs} {L : ρ → Addr} {ob : ρ → Option O} (h : At S L ob) (f : ∀ b o, S b = some o → S' b = some o) : At S' L ob := ⟨fun r o e => f _ _ (h.at_ r o e), h.inj⟩
theorem Ext.su {S S0 : Hs} {a : Addr} {o : O} (h : ∀ b o, S0 b = some o → S b = some o) (n : S a = none) : ∀ b x, S0 b = some x → su S a o b = some x := fun b x e => by
  rw [su_ne fun q => by have := h b x e; rw [q, n] at this; cases this]; exact h b x e
theorem order_len {N : Nat} {s : Ks} (wf : Kwf N s) : s.order.length ≤ N := by
  unfold Ks.order Ks.rows
  rw [List.length_map, (srtR_perm _).length_eq, rowsAt_len]
  exact wf.al
theorem all_ok {T : Tbl} (k4 : KpT4 T) {k : Nat} (hT : T.fn k = some f_law_all_2) (n : Nat) {N : Nat} {S : Hs} {L : Role → Addr} {s : Ks} {m : Int} {Q : VK2} (h : KAt S L s) (wf : Kwf N s) (hN : N ≤ 50000) (hm : (s.boxes.length : Int) = m)
    (w : ∀ (S' : Hs) (l1 l2 l3 : Addr), (∀ b o, S b = some o → S' b = some o) → S' l1 = some (.lst (s.marks.map D.int)) → S' l2 = some (.lst s.events) → S' l3 = some (.lst (s.order.map D.int)) → Q (.d (.tup [.tup (s.boxes.map D.int), .int s.time, .ref l1, .ref l2, .ref l3])) S') :
    cal T (n + 2) k [.d (.ref (L .k)), .d (.int m)] S Q := by
  refine ⟨_, hT, rfl, rfl, ?_⟩
  have c1 := fun (S : Hs) (b : Int) Q (h : KAt S L s) hb => kmark_ok n (b := b) (Q := Q) k4.f196 h wf hb
  have c2 := fun (S : Hs) Q (h : KAt S L s) => know_ok n (Q := Q) k4.f194 h
  have c3 := fun (S : Hs) Q (h : KAt S L s) => kclock_ok n (Q := Q) k4.f195 h
  have c4 := fun (S : Hs) Q (h : KAt S L s) => klog_ok n (Q := Q) k4.f192 h
  have c5 := fun (S : Hs) Q (h : KAt S L s) => korder_ok k4.f193 n (Q := Q) h wf hN
  generalize cal T (n + 1) = c at c1 c2 c3 c4 c5 ⊢
  have g3 := h.rd.gkc k4.c194
  have g4 := h.rd.gkc k4.c195
  have g5 := h.rd.gkc k4.c196
  have bl := wf.bl
  have ml := wf.ml
  walk_at "run"
  refine c2 _ _ h ?_
  walk_at "run"
  refine c3 _ _ h ?_
  walk_at "run"
  refine ⟨by omega, by omega, ?_⟩
  have er : rngD 0 m.toNat = (upTo s.marks.length).map D.int := by
    rw [rngD_ints, show m.toNat = ((s.marks.length : Nat) : Int).toNat by omega]; rfl
  refine compL_fm' D.int (fun b => some (.int (s.mark b))) (upTo s.marks.length) er trivial (fun b hb P1 P2 h1 _ => ?_) ?_ ?_
  · have hb := upTo_mem.mp hb
    refine Br.tt ?_
    walk_at "run"
    exact c1 _ b _ h ⟨hb.1, by rw [← ml]; exact hb.2⟩ (h1 _ rfl)
  · rw [upTo_len]
    exact Nat.le_trans (show ((s.marks.length : Nat) : Int).toNat ≤ 60 by omega) (by decide)
  have em : (upTo s.marks.length).filterMap (fun b => some (D.int (s.mark b))) = s.marks.map D.int := by
    rw [List.filterMap_eq_map', show (fun b => D.int (s.mark b)) = D.int ∘ s.mark from rfl, ← List.map_map]
    congr 1
    refine List.ext_getElem (by rw [List.length_map, upTo_len]; omega) fun i h1 h2 => ?_
    rw [List.getElem_map]
    unfold upTo
    rw [List.getElem_map, List.getElem_range]
    show s.marks.getD _ 0 = _
    rw [List.getD_eq_getElem?_getD, show (((i : Nat) : Int)).toNat = i by omega, List.getElem?_eq_getElem h2]; rfl
  rw [em]
  intro l1 h1
  have f1 := Ext.su (o := .lst (s.marks.map D.int)) (fun b o (e : S b = some o) => e) h1
  have e1 : (su S l1 (.lst (s.marks.map D.int))) l1 = some (.lst (s.marks.map D.int)) := su_same
  generalize su S l1 (.lst (s.marks.map D.int)) = S1 at f1 e1 ⊢
  have k1 : KAt S1 L s := At.grow h f1
  have g1 := k1.rd.gkc k4.c192
  walk_at "run"
  refine c4 _ _ k1 ?_
  intro l2 h2
  have f2 := Ext.su (o := .lst s.events) f1 h2
  have e2 : (su S1 l2 (.lst s.events)) l2 = some (.lst s.events) := su_same
  have e12 : (su S1 l2 (.lst s.events)) l1 = some (.lst (s.marks.map D.int)) := by rw [su_ne fun q => by rw [q, h2] at e1; cases e1]; exact e1
  generalize su S1 l2 (.lst s.events) = S2 at f2 e2 e12 ⊢
  have k2 : KAt S2 L s := At.grow h f2
  have g2 := k2.rd.gkc k4.c193
  walk_at "run"
  refine c5 _ _ k2 ?_
  intro l3 h3
  have f3 := Ext.su (o := .lst (s.order.map D.int)) f2 h3
  walk_at "run"
  refine w _ l1 l2 l3 f3 ?_ ?_ su_same
  · rw [su_ne fun q => by rw [q, h3] at e12; cases e12]; exact e12
  · rw [su_ne fun q => by rw [q, h3] at e2; cases e2]; exact e2
/-! phases behind a call -/
def Cl.att : Cl → Int
  | .begin a => a
  | .look a _ => a
  | .put a _ _ => a
  | .take a => a
  | .write a => a
  | .fall a => a
theorem phD_evt (s : Ks) (e : D) : phD (s.evt e) = phD s := rfl
theorem phD_ends {s : Ks} {a : Int} {t : Att} {w : List Nat} {ph : List (D × D)} (h : ph = phD s) : dput ph (.int a) (.str sOff) = phD (s.ends a t w) := by
  subst h
  exact phD_put (t := { t with opn := false }) rfl
theorem ph_behind {N : Nat} {s : Ks} {c : Cl} (wf : Kwf N s) (iv : Kinv s) (f : c.fit s) (nf : ∀ a, c ≠ .fall a) :
    (((s.step c).2 = rFalls ∨ (s.step c).2 = .str sFalls ∨ (s.step c).2 = .str sDone) → dput (phC s c) (.int c.att) (.str sOff) = phD (s.step c).1) ∧
    ((s.step c).2 = .str sTaken → dput (phC s c) (.int c.att) (.str sTaken) = phD (s.step c).1) ∧
    (((s.step c).2 = .non ∨ (s.step c).2 = .str sWritten ∨ ∃ v, (s.step c).2 = rNum v) → phC s c = phD (s.step c).1) := by
  cases c with
  | begin a => exact ⟨fun h => (by rcases h with h | h | h <;> cases h), fun h => (by cases h), fun _ => rfl⟩
  | look a b =>
    obtain ⟨⟨t, g⟩, hb⟩ := f
    have ew : s.step (.look a b) = s.look a t b := by show onA s a _ = _; unfold onA; rw [g.g]
    rw [ew]
    unfold Ks.look
    split
    · exact ⟨fun h => (by rcases h with h | h | h <;> cases h), fun h => (by cases h), fun _ => rfl⟩
    · split
      · exact ⟨fun _ => phD_ends rfl, fun h => (by cases h), fun h => (by rcases h with h | h | ⟨v, h⟩ <;> cases h)⟩
      · exact ⟨fun h => (by rcases h with h | h | h <;> cases h), fun h => (by cases h), fun _ => (phD_same (t' := t.glanced s b) wf.an g.g rfl).symm⟩
  | put a b v =>
    obtain ⟨⟨t, g⟩, hb⟩ := f
    have ew : s.step (.put a b v) = (s.put a t b v, .non) := by show onA s a _ = _; unfold onA; rw [g.g]
    rw [ew]
    exact ⟨fun h => (by rcases h with h | h | h <;> cases h), fun h => (by cases h), fun _ => (phD_same (t' := { t with puts := pput t.puts b v }) wf.an g.g rfl).symm⟩
  | take a =>
    obtain ⟨t, g⟩ := f
    have ew : s.step (.take a) = s.take a t := by show onA s a _ = _; unfold onA; rw [g.g]
    rw [ew]
    unfold Ks.take
    split
    · exact ⟨fun _ => phD_ends rfl, fun h => (by cases h), fun h => (by rcases h with h | h | ⟨v, h⟩ <;> cases h)⟩
    · split
      · refine ⟨fun h => (by rcases h with h | h | h <;> cases h), fun _ => ?_, fun h => (by rcases h with h | h | ⟨v, h⟩ <;> cases h)⟩
        exact phD_put (s := s) (t := { t with stamp := some (s.time + 1), left := srt t.keys }) (by unfold phOf; rw [if_pos g.o]; rfl)
      · exact ⟨fun _ => phD_ends rfl, fun h => (by cases h), fun h => (by rcases h with h | h | ⟨v, h⟩ <;> cases h)⟩
  | write a =>
    obtain ⟨t, z, g, ho, hs⟩ := f
    have ew : s.step (.write a) = s.write a t := by show onA s a _ = _; unfold onA; rw [g]
    rw [ew]
    unfold Ks.write
    split
    · exact ⟨fun h => (by rcases h with h | h | h <;> cases h), fun h => (by cases h), fun _ => rfl⟩
    · rename_i b r hl
      have e : phD (s.wrote a t b r) = phD s := phD_same (s := { s with boxes := s.boxes.set b.toNat ((pget t.puts b).getD 0), marks := s.marks.set b.toNat (t.stamp.getD 0) }) (t' := { t with left := r }) wf.an g rfl
      split
      · refine ⟨fun _ => ?_, fun h => (by cases h), fun h => (by rcases h with h | h | ⟨v, h⟩ <;> cases h)⟩
        exact phD_ends (s := (s.wrote a t b r).holds t.keys none) e.symm
      · exact ⟨fun h => (by rcases h with h | h | h <;> cases h), fun h => (by cases h), fun _ => e.symm⟩
  | fall a => exact (nf a rfl).elim
end LU

/-! O1: attempts with boxes apart (k36), plain. -/
namespace LU
open PySem L2 PySem.Spec PyProof.Rows DL LW
structure Pn where
  pl : List (Int × Bool)
  pu : Int → List (Int × Int)
def Ks.hold (s : Ks) (b : Int) : Option Int := s.holders.getD b.toNat none
theorem free_none {s : Ks} {a b : Int} (h : s.hold b = none) : s.free a b = true := by
  unfold Ks.free; unfold Ks.hold at h; rw [h]
def stB (st : List Int) (b : Int) : Int := st.getD b.toNat 0
structure J36 (st : List Int) (n many : Int) (g : Pn) (s : Ks) (N : Nat) : Prop where
  wf : Kwf N s
  tm : 0 ≤ s.time
  bl : (s.boxes.length : Int) = n
  nd : (g.pl.map Prod.fst).Nodup
  rg : ∀ e ∈ g.pl, 0 ≤ e.1 ∧ e.1 < many
  pk : ∀ a, ∀ p ∈ g.pu a, 0 ≤ p.1 ∧ p.1 < n ∧ p.1 % many = a
  pn : ∀ a, ((g.pu a).map Prod.fst).Nodup
  off : ∀ a, (a, false) ∈ g.pl → pget s.atts a = none ∧ g.pu a = []
  on : ∀ a, (a, true) ∈ g.pl → ∃ t, pget s.atts a = some t ∧ t.opn = true ∧ t.stamp = none ∧ 0 ≤ t.glance ∧ t.puts = g.pu a ∧ ∀ b ∈ t.looked, 0 ≤ b ∧ b < n ∧ b % many = a
  live : ∀ b, 0 ≤ b → b < n → b % many ∈ g.pl.map Prod.fst → s.mark b = 0 ∧ s.hold b = none ∧ s.box b = stB st b
  gone : ∀ b, 0 ≤ b → b < n → b % many ∉ g.pl.map Prod.fst → s.box b = (pget (g.pu (b % many)) b).getD (stB st b)
section
variable {st : List Int} {n many : Int} {g : Pn} {s s' : Ks} {N M : Nat} {a b v : Int} {t : Att}
theorem J36.mono (h : J36 st n many g s N) (l : N ≤ M) : J36 st n many g s M := { h with wf := h.wf.mono l }
theorem mem_fst {a : Int} {x : Bool} {l : List (Int × Bool)} (h : (a, x) ∈ l) : a ∈ l.map Prod.fst := List.mem_map_of_mem (f := Prod.fst) h
/-- an event more -/
theorem J36.evt (h : J36 st n many g s N) {e : D} (w : Kwf M (s.evt e)) : J36 st n many g (s.evt e) M := { h with wf := w }
theorem one_of {l : List (Int × Bool)} (nd : (l.map Prod.fst).Nodup) {a : Int} {x y : Bool} (h : (a, x) ∈ l) (k : (a, y) ∈ l) : x = y := by
  have h1 := pget_of nd h
  have h2 := pget_of nd k
  rw [h1] at h2
  exact Option.some.inj h2
theorem J36.set (h : J36 st n many g s N) (ha : (a, true) ∈ g.pl) {t' : Att} {pu' : List (Int × Int)} (w : Kwf M (s.setA a t'))
    (e1 : t'.opn = true) (e2 : t'.stamp = none) (e3 : 0 ≤ t'.glance) (e4 : t'.puts = pu') (e5 : ∀ b ∈ t'.looked, 0 ≤ b ∧ b < n ∧ b % many = a) (pk : ∀ p ∈ pu', 0 ≤ p.1 ∧ p.1 < n ∧ p.1 % many = a) (pn : (pu'.map Prod.fst).Nodup) :
    J36 st n many ⟨g.pl, fun c => if c = a then pu' else g.pu c⟩ (s.setA a t') M := by
  refine ⟨w, h.tm, h.bl, h.nd, h.rg, fun c p hp => ?_, fun c => ?_, fun c hc => ?_, fun c hc => ?_, h.live, fun b b0 b1 hb => ?_⟩
  · have hp : p ∈ (if c = a then pu' else g.pu c) := hp
    by_cases q : c = a
    · rw [if_pos q] at hp; rw [q]; exact pk p hp
    · rw [if_neg q] at hp; exact h.pk c p hp
  · show ((if c = a then pu' else g.pu c).map Prod.fst).Nodup
    by_cases q : c = a
    · rw [if_pos q]; exact pn
    · rw [if_neg q]; exact h.pn c
  · have q : c ≠ a := fun q => by subst q; have := one_of h.nd hc ha; cases this
    show _ ∧ (if c = a then pu' else g.pu c) = []
    rw [setA_ne q, if_neg q]
    exact h.off c hc
  · show ∃ t : Att, _ ∧ _ ∧ _ ∧ _ ∧ t.puts = (if c = a then pu' else g.pu c) ∧ _
    by_cases q : c = a
    · subst q
      rw [setA_get, if_pos rfl]
      exact ⟨t', rfl, e1, e2, e3, e4, e5⟩
    · rw [setA_ne q, if_neg q]
      exact h.on c hc
  · show _ = (pget (if b % many = a then pu' else g.pu (b % many)) b).getD _
    have q : b % many ≠ a := fun q => hb (by rw [q]; exact mem_fst ha)
    rw [if_neg q]
    exact h.gone b b0 b1 hb
theorem J36.same (h : J36 st n many ⟨g.pl, fun c => if c = a then g.pu a else g.pu c⟩ s N) : J36 st n many g s N := by
  have : (fun c => if c = a then g.pu a else g.pu c) = g.pu := funext fun c => by
    by_cases q : c = a
    · rw [if_pos q, q]
    · rw [if_neg q]
  rw [this] at h
  exact h
theorem J36.look (h : J36 st n many g s N) (ha : (a, true) ∈ g.pl) (ht : pget s.atts a = some t) (b0 : 0 ≤ b) (b1 : b < n) (bm : b % many = a) :
    (s.look a t b).2 = rNum ((pget (g.pu a) b).getD (stB st b)) ∧ J36 st n many g (s.look a t b).1 (N + 1) := by
  obtain ⟨t', ht', h1, h2, h3, h4, h5⟩ := h.on a ha
  rw [ht] at ht'; cases ht'
  have hb : inR s b := ⟨b0, by rw [h.bl]; exact b1⟩
  have w := h.wf.look ht hb
  obtain ⟨l1, l2, l3⟩ := h.live b b0 b1 (by rw [bm]; exact mem_fst ha)
  have nf : s.wouldFall a t b = false := by
    unfold Ks.wouldFall
    rw [free_none l2, l1]
    have : decide (t.glance < 0) = false := decide_eq_false (by omega)
    rw [this]; rfl
  unfold Ks.look at w ⊢
  rw [h4] at w ⊢
  cases hp : pget (g.pu a) b with
  | some v =>
    rw [hp] at w
    exact ⟨rfl, h.evt w⟩
  | none =>
    rw [hp, nf] at w
    simp only [nf]
    refine ⟨by rw [l3]; rfl, ?_⟩
    have w : Kwf (N + 1) ((s.setA a (t.glanced s b)).evt (e4 sLook a b (s.box b))) := w
    have w2 : Kwf (N + 1) (s.setA a (t.glanced s b)) := by
      refine ⟨w.ml, w.hl, w.bl, ?_, ?_, w.al, w.an, fun c u hu => (w.att c u hu).mono (Nat.le_refl _) rfl⟩
      · have := h.wf.el; exact Nat.le_succ_of_le this
      · exact h.wf.ep
    refine J36.evt (J36.same (a := a) (h.set ha w2 h1 h2 ?_ h4 ?_ (h.pk a) (h.pn a))) w
    · show 0 ≤ (if t.glance < s.mark b then s.time else t.glance)
      split
      · exact h.tm
      · exact h3
    · intro c hc
      rcases List.mem_append.mp hc with hc | hc
      · exact h5 c hc
      · have : c = b := by simpa using hc
        rw [this]; exact ⟨b0, b1, bm⟩
theorem J36.put (h : J36 st n many g s N) (ha : (a, true) ∈ g.pl) (ht : pget s.atts a = some t) (b0 : 0 ≤ b) (b1 : b < n) (bm : b % many = a) :
    J36 st n many ⟨g.pl, fun c => if c = a then pput (g.pu a) b v else g.pu c⟩ (s.put a t b v) (N + 1) := by
  obtain ⟨t', ht', h1, h2, h3, h4, h5⟩ := h.on a ha
  rw [ht] at ht'; cases ht'
  have hb : inR s b := ⟨b0, by rw [h.bl]; exact b1⟩
  have w := h.wf.put (v := v) ht hb
  have w2 : Kwf (N + 1) (s.setA a { t with puts := pput t.puts b v }) := by
    refine ⟨w.ml, w.hl, w.bl, ?_, h.wf.ep, w.al, w.an, fun c u hu => (w.att c u hu).mono (Nat.le_refl _) rfl⟩
    exact Nat.le_succ_of_le h.wf.el
  refine J36.evt (h.set ha w2 h1 h2 h3 (by show pput t.puts b v = _; rw [h4]) h5 ?_ (pput_keys (h.pn a))) w
  intro p hp
  rcases pput_keys_mem hp with e | hp
  · rw [e]; exact ⟨b0, b1, bm⟩
  · exact h.pk a p hp
/-- an attempt begins -/
def goOn (l : List (Int × Bool)) (a : Int) : List (Int × Bool) := l.map fun e => if e.1 = a then (a, true) else e
theorem goOn_fst (l : List (Int × Bool)) (a : Int) : (goOn l a).map Prod.fst = l.map Prod.fst := by
  unfold goOn
  rw [List.map_map]
  refine List.map_congr_left fun e _ => ?_
  show (if e.1 = a then (a, true) else e).1 = e.1
  split
  · rename_i q; exact q.symm
  · rfl
theorem goOn_mem {l : List (Int × Bool)} {a c : Int} {x : Bool} (h : (c, x) ∈ goOn l a) : c = a ∧ x = true ∨ c ≠ a ∧ (c, x) ∈ l := by
  obtain ⟨e, he, q⟩ := List.mem_map.mp h
  by_cases z : e.1 = a
  · rw [if_pos z] at q; cases q; exact .inl ⟨rfl, rfl⟩
  · rw [if_neg z] at q; subst q; exact .inr ⟨z, he⟩
theorem J36.begin (h : J36 st n many g s N) (ha : (a, false) ∈ g.pl) : J36 st n many ⟨goOn g.pl a, g.pu⟩ (s.begin a) (N + 1) := by
  obtain ⟨e1, e2⟩ := h.off a ha
  have gp : ∀ c, pget (s.begin a).atts c = if a = c then some ⟨s.time, [], [], [], none, true⟩ else pget s.atts c := fun c => pget_put _ _ _ _
  refine ⟨h.wf.begin e1, h.tm, h.bl, by show ((goOn _ _).map _).Nodup; rw [goOn_fst]; exact h.nd, fun e he => ?_, h.pk, h.pn, fun c hc => ?_, fun c hc => ?_, fun b b0 b1 hb => ?_, fun b b0 b1 hb => ?_⟩
  · rcases goOn_mem (show (e.1, e.2) ∈ goOn g.pl a from he) with ⟨q, _⟩ | ⟨_, q⟩
    · rw [q]; exact h.rg _ ha
    · exact h.rg _ q
  · rcases goOn_mem hc with ⟨_, q⟩ | ⟨q, hc⟩
    · cases q
    · rw [gp, if_neg fun z => q z.symm]
      exact h.off c hc
  · rcases goOn_mem hc with ⟨q, _⟩ | ⟨q, hc⟩
    · subst q
      rw [gp, if_pos rfl]
      exact ⟨_, rfl, rfl, rfl, h.tm, e2.symm, fun b hb => by cases hb⟩
    · rw [gp, if_neg fun z => q z.symm]
      exact h.on c hc
  · have hb : b % many ∈ (goOn g.pl a).map Prod.fst := hb
    rw [goOn_fst] at hb
    exact h.live b b0 b1 hb
  · have hb : b % many ∉ (goOn g.pl a).map Prod.fst := hb
    rw [goOn_fst] at hb
    exact h.gone b b0 b1 hb
/-- an attempt leaves the plan -/
def dropP (l : List (Int × Bool)) (a : Int) : List (Int × Bool) := l.filter fun e => decide (e.1 ≠ a)
theorem dropP_mem {l : List (Int × Bool)} {a : Int} {e : Int × Bool} : e ∈ dropP l a ↔ e ∈ l ∧ e.1 ≠ a := by
  unfold dropP
  rw [List.mem_filter, decide_eq_true_eq]
theorem dropP_fst {l : List (Int × Bool)} {a c : Int} : c ∈ (dropP l a).map Prod.fst ↔ c ∈ l.map Prod.fst ∧ c ≠ a := by
  rw [List.mem_map, List.mem_map]
  constructor
  · rintro ⟨e, he, rfl⟩
    obtain ⟨h1, h2⟩ := dropP_mem.mp he
    exact ⟨⟨e, h1, rfl⟩, h2⟩
  · rintro ⟨⟨e, he, rfl⟩, h2⟩
    exact ⟨e, dropP_mem.mpr ⟨he, h2⟩, rfl⟩
theorem J36.drop (h : J36 st n many g s N) (w : Kwf M s') (tm : 0 ≤ s'.time) (bl : s'.boxes.length = s.boxes.length) (oth : ∀ c, c ≠ a → pget s'.atts c = pget s.atts c)
    (ot : ∀ b, 0 ≤ b → b < n → b % many ≠ a → s'.mark b = s.mark b ∧ s'.hold b = s.hold b ∧ s'.box b = s.box b)
    (mine : ∀ b, 0 ≤ b → b < n → b % many = a → s'.box b = (pget (g.pu a) b).getD (stB st b)) : J36 st n many ⟨dropP g.pl a, g.pu⟩ s' M := by
  refine ⟨w, tm, by rw [bl]; exact h.bl, ?_, fun e he => h.rg e (dropP_mem.mp he).1, h.pk, h.pn, fun c hc => ?_, fun c hc => ?_, fun b b0 b1 hb => ?_, fun b b0 b1 hb => ?_⟩
  · exact (List.filter_sublist.map Prod.fst).nodup h.nd
  · obtain ⟨h1, h2⟩ := dropP_mem.mp hc
    rw [oth c h2]; exact h.off c h1
  · obtain ⟨h1, h2⟩ := dropP_mem.mp hc
    rw [oth c h2]; exact h.on c h1
  · obtain ⟨h1, h2⟩ := dropP_fst.mp hb
    obtain ⟨q1, q2, q3⟩ := ot b b0 b1 h2
    rw [q1, q2, q3]; exact h.live b b0 b1 h1
  · by_cases q : b % many = a
    · rw [mine b b0 b1 q, q]
    · rw [(ot b b0 b1 q).2.2]
      exact h.gone b b0 b1 fun z => hb (dropP_fst.mpr ⟨z, q⟩)
end
end LU

/-! O2: an attempt's last calls (k36), plain. -/
namespace LU
open PySem L2 PySem.Spec PyProof.Rows DL LW
theorem box_set {s : Ks} {l : List Int} {x v : Int} {b : Int} (e : l = s.boxes.set x.toNat v) (x0 : 0 ≤ x) (x1 : x < s.boxes.length) (b0 : 0 ≤ b) : l.getD b.toNat 0 = if b = x then v else s.box b := by
  subst e
  rw [set_getD (by omega)]
  by_cases q : b = x
  · rw [if_pos q, if_pos (by rw [q])]
  · rw [if_neg q, if_neg (by omega)]; rfl
structure Wr (s0 s : Ks) (a : Int) (t : Att) (l : List Int) : Prop where
  at_ : pget s.atts a = some { t with left := l }
  oth : ∀ c, c ≠ a → pget s.atts c = pget s0.atts c
  box : ∀ b, 0 ≤ b → s.box b = if b ∈ t.keys ∧ b ∉ l then (pget t.puts b).getD 0 else s0.box b
  mrk : ∀ b, 0 ≤ b → b ∉ t.keys → s.mark b = s0.mark b
  hd : s.holders = s0.holders
  tm : s.time = s0.time
  bl : s.boxes.length = s0.boxes.length
  ml : s.marks.length = s.boxes.length
section
variable {s0 s : Ks} {a b : Int} {t : Att} {r : List Int}
theorem Wr.wrote (h : Wr s0 s a t (b :: r)) (hk : b ∈ t.keys) (hr : ∀ x ∈ t.keys, 0 ≤ x ∧ x < s0.boxes.length) (nd : (b :: r).Nodup) : Wr s0 (s.wrote a { t with left := b :: r } b r) a t r := by
  have hb := hr b hk
  have hb' : b < s.boxes.length := by rw [h.bl]; exact hb.2
  have nb : b ∉ r := (List.nodup_cons.mp nd).1
  refine ⟨setA_get, fun c q => (setA_ne q).trans (h.oth c q), fun c c0 => ?_, fun c c0 hc => ?_, h.hd, h.tm, List.length_set.trans h.bl, ?_⟩
  · have e := box_set (s := s) (l := s.boxes.set b.toNat ((pget t.puts b).getD 0)) (b := c) rfl hb.1 hb' c0
    show (s.boxes.set b.toNat ((pget t.puts b).getD 0)).getD c.toNat 0 = _
    rw [e]
    by_cases q : c = b
    · subst q
      rw [if_pos rfl, if_pos ⟨hk, nb⟩]
    · rw [if_neg q, h.box c c0]
      by_cases z : c ∈ t.keys ∧ c ∉ r
      · rw [if_pos z, if_pos ⟨z.1, fun y => (List.mem_cons.mp y).elim q z.2⟩]
      · rw [if_neg z, if_neg fun y => z ⟨y.1, fun x => y.2 (List.mem_cons_of_mem _ x)⟩]
  · show (s.marks.set b.toNat _).getD c.toNat 0 = _
    rw [set_getD (by have := h.ml; omega), if_neg fun q => hc (by have : c = b := by omega
                                                                  rw [this]; exact hk)]
    exact h.mrk c c0 hc
  · show (s.marks.set _ _).length = (s.boxes.set _ _).length
    rw [List.length_set, List.length_set]; exact h.ml
theorem Wr.step (h : Wr s0 s a t (b :: r)) (hk : b ∈ t.keys) (hr : ∀ x ∈ t.keys, 0 ≤ x ∧ x < s0.boxes.length) (nd : (b :: r).Nodup) (ne : r ≠ []) :
    (s.write a { t with left := b :: r }).2 = .str sWritten ∧ Wr s0 (s.write a { t with left := b :: r }).1 a t r := by
  have e : s.write a { t with left := b :: r } = (s.wrote a { t with left := b :: r } b r, .str sWritten) := by
    unfold Ks.write
    exact if_neg ne
  rw [e]
  exact ⟨rfl, h.wrote hk hr nd⟩
theorem Wr.last (h : Wr s0 s a t [b]) (hk : b ∈ t.keys) (hr : ∀ x ∈ t.keys, 0 ≤ x ∧ x < s0.boxes.length) (hl : s0.holders.length = s0.boxes.length) :
    (s.write a { t with left := [b] }).2 = .str sDone ∧ (∀ c, c ≠ a → pget (s.write a { t with left := [b] }).1.atts c = pget s0.atts c) ∧
    (∀ c, 0 ≤ c → (s.write a { t with left := [b] }).1.box c = if c ∈ t.keys then (pget t.puts c).getD 0 else s0.box c) ∧ (∀ c, 0 ≤ c → c ∉ t.keys → (s.write a { t with left := [b] }).1.mark c = s0.mark c) ∧
    (∀ c, 0 ≤ c → (s.write a { t with left := [b] }).1.hold c = if c ∈ t.keys then none else s0.hold c) ∧ (s.write a { t with left := [b] }).1.time = s0.time ∧ (s.write a { t with left := [b] }).1.boxes.length = s0.boxes.length := by
  have e : s.write a { t with left := [b] } = (((s.wrote a { t with left := [b] } b []).holds t.keys none).ends a { t with left := [] } sDone, .str sDone) := by
    unfold Ks.write
    exact if_pos rfl
  have w := h.wrote hk hr (by simp)
  rw [e]
  refine ⟨rfl, fun c q => (setA_ne q).trans (w.oth c q), fun c c0 => ?_, fun c c0 hc => w.mrk c c0 hc, fun c c0 => ?_, w.tm, w.bl⟩
  · have := w.box c c0
    by_cases z : c ∈ t.keys
    · rw [if_pos ⟨z, by simp⟩] at this; rw [if_pos z]; exact this
    · rw [if_neg fun y => z y.1] at this; rw [if_neg z]; exact this
  · have hg := holds_get (o := none) t.keys (s.wrote a { t with left := [b] } b []).holders c (fun x hx => by rw [w.hd, hl]; exact hr x hx) c0
    show (t.keys.foldl (fun h b => h.set b.toNat none) (s.wrote a { t with left := [b] } b []).holders).getD c.toNat none = _
    rw [hg, w.hd]; rfl
end
section
variable {st : List Int} {n many : Int} {g : Pn} {s s' : Ks} {N M : Nat} {a b v : Int} {t : Att}
/-- done without puts -/
theorem J36.none_put (h : J36 st n many g s N) (ha : (a, true) ∈ g.pl) (ht : pget s.atts a = some t) (hp : g.pu a = []) :
    (s.take a t).2 = .str sDone ∧ J36 st n many ⟨dropP g.pl a, g.pu⟩ (s.take a t).1 (N + 1) := by
  obtain ⟨t', ht', h1, h2, h3, h4, h5⟩ := h.on a ha
  rw [ht] at ht'; cases ht'
  have w := h.wf.take ht
  have e : s.take a t = (s.ends a t sDone, .str sDone) := by unfold Ks.take; exact if_pos (by rw [h4, hp])
  rw [e] at w ⊢
  refine ⟨rfl, h.drop w h.tm rfl (fun c q => setA_ne q) (fun b b0 b1 q => ⟨rfl, rfl, rfl⟩) fun b b0 b1 q => ?_⟩
  rw [hp]
  exact (h.live b b0 b1 (by rw [q]; exact mem_fst ha)).2.2
/-- taken -/
theorem J36.taken (h : J36 st n many g s N) (ha : (a, true) ∈ g.pl) (ht : pget s.atts a = some t) (hp : g.pu a ≠ []) :
    s.take a t = (s.takes a t, .str sTaken) ∧ Wr (s.takes a t) (s.takes a t) a { t with stamp := some (s.time + 1) } (srt t.keys) := by
  obtain ⟨t', ht', h1, h2, h3, h4, h5⟩ := h.on a ha
  rw [ht] at ht'; cases ht'
  have lv : ∀ b, 0 ≤ b → b < n → b % many = a → s.mark b = 0 ∧ s.hold b = none := fun b b0 b1 q => by
    have := h.live b b0 b1 (by rw [q]; exact mem_fst ha)
    exact ⟨this.1, this.2.1⟩
  have kk : ∀ b ∈ t.keys, 0 ≤ b ∧ b < n ∧ b % many = a := fun b hb => by
    unfold Att.keys at hb
    rw [h4] at hb
    obtain ⟨p, hp, rfl⟩ := List.mem_map.mp hb
    exact h.pk a p hp
  have ct : s.canTake a t = true := by
    unfold Ks.canTake Ks.still
    rw [Bool.and_eq_true, List.all_eq_true, List.all_eq_true]
    refine ⟨fun b hb => ?_, fun b hb => ?_⟩
    · obtain ⟨b0, b1, bm⟩ := h5 b hb
      obtain ⟨l1, l2⟩ := lv b b0 b1 bm
      rw [free_none l2, l1]
      exact decide_eq_true h3
    · obtain ⟨b0, b1, bm⟩ := kk b hb
      exact free_none (lv b b0 b1 bm).2
  refine ⟨?_, ⟨?_, fun _ _ => rfl, fun b b0 => ?_, fun _ _ _ => rfl, rfl, rfl, rfl, h.wf.ml⟩⟩
  · unfold Ks.take
    rw [if_neg (by rw [h4]; exact hp), if_pos ct]
  · exact setA_get (s := { s with time := s.time + 1 })
  · have : ¬ (b ∈ ({ t with stamp := some (s.time + 1) } : Att).keys ∧ b ∉ srt t.keys) := fun z => z.2 (srt_mem.mpr z.1)
    rw [if_neg this]
/-- the last write -/
theorem J36.written (h : J36 st n many g s N) (ha : (a, true) ∈ g.pl) (ht : pget s.atts a = some t) (hw : Wr (s.takes a t) s' a { t with stamp := some (s.time + 1) } [b]) (hb : b ∈ t.keys)
    (w : Kwf M (s'.write a { t with stamp := some (s.time + 1), left := [b] }).1) :
    (s'.write a { t with stamp := some (s.time + 1), left := [b] }).2 = .str sDone ∧ J36 st n many ⟨dropP g.pl a, g.pu⟩ (s'.write a { t with stamp := some (s.time + 1), left := [b] }).1 M := by
  obtain ⟨t', ht', h1, h2, h3, h4, h5⟩ := h.on a ha
  rw [ht] at ht'; cases ht'
  have bl := h.bl
  have kk : ∀ b ∈ t.keys, 0 ≤ b ∧ b < n ∧ b % many = a := fun b hb => by
    unfold Att.keys at hb
    rw [h4] at hb
    obtain ⟨p, hp, rfl⟩ := List.mem_map.mp hb
    exact h.pk a p hp
  have hlen : (s.takes a t).holders.length = s.holders.length := by
    have : ∀ (l : List Int) (hs : List (Option Int)), (l.foldl (fun h b => h.set b.toNat (some a)) hs).length = hs.length := by
      intro l
      induction l with
      | nil => intro hs; rfl
      | cons x l ih => intro hs; rw [List.foldl_cons, ih, List.length_set]
    exact this _ _
  obtain ⟨q1, q2, q3, q4, q5, q6, q7⟩ := hw.last hb (fun x hx => ⟨(kk x hx).1, by have := (kk x hx).2.1; show x < s.boxes.length; omega⟩) (hlen.trans h.wf.hl)
  have q1 : (s'.write a { t with stamp := some (s.time + 1), left := [b] }).2 = .str sDone := q1
  refine ⟨q1, h.drop w (by have := h.tm; have q6 : (s'.write a { t with stamp := some (s.time + 1), left := [b] }).1.time = s.time + 1 := q6; omega) q7 (fun c q => (q2 c q).trans (setA_ne (s := { s with time := s.time + 1 }) q)) (fun c c0 c1 q => ?_) fun c c0 c1 q => ?_⟩
  · have nk : c ∉ t.keys := fun z => q (kk c z).2.2
    refine ⟨q4 c c0 nk, ?_, ?_⟩
    · refine (q5 c c0).trans ((if_neg nk).trans ?_)
      have hg := holds_get (o := some a) (srt t.keys) s.holders c (fun x hx => by rw [h.wf.hl]; have := kk x (srt_mem.mp hx); exact ⟨this.1, by omega⟩) c0
      show ((srt t.keys).foldl (fun h b => h.set b.toNat (some a)) s.holders).getD c.toNat none = _
      rw [hg, if_neg fun z => nk (srt_mem.mp z)]; rfl
    · exact (q3 c c0).trans (if_neg nk)
  · have e := q3 c c0
    by_cases z : c ∈ t.keys
    · refine (e.trans (if_pos z)).trans ?_
      show (pget t.puts c).getD 0 = _
      rw [← h4]
      obtain ⟨v, hv⟩ := Option.isSome_iff_exists.mp (keys_get.mp z)
      rw [hv]; rfl
    · refine (e.trans (if_neg z)).trans ?_
      rw [← h4]
      have : pget t.puts c = none := by
        cases y : pget t.puts c with
        | none => rfl
        | some v => exact (z (keys_get.mpr (by rw [y]; rfl))).elim
      rw [this]
      exact (h.live c c0 c1 (by rw [q]; exact mem_fst ha)).2.2
end
end LU

/-! O3: k36: the heap; the last calls. -/
namespace LU
open PySem L2 PySem.Spec PyProof.Rows DL LW
local macro_rules | `(tactic| walk_at "s1") => `(tactic| first | with_reducible refine one1_i ?_ | with_reducible refine storD ?_ | with_reducible refine storV ?_ | with_reducible refine storVd ?_ | with_reducible refine bxD ?_ | refine ⟨_, rfl, ?_⟩ | refine ⟨_, _, rfl, by assumption, ?_⟩ | refine ⟨_, _, _, rfl, by assumption, rfl, ?_⟩ | refine ⟨_, by assumption, ?_⟩ | refine ⟨rfl, ?_⟩ | refine ⟨.inl rfl, ?_⟩ | refine ⟨Nat.le_of_ble_eq_true rfl, ?_⟩)
local macro_rules | `(tactic| walk_at "go") => `(tactic| (walk_at "s1"; repeat ((fail_if_success with_reducible refine isS ?_); walk_at "s1")))
local macro_rules | `(tactic| walk_at "run") => `(tactic| repeat walk_at "s1")
def upo {ι α : Type} [DecidableEq ι] (f : ι → α) (j : ι) (v : α) : ι → α := fun i => if i = j then v else f i
theorem upo_same {ι α : Type} [DecidableEq ι] {f : ι → α} {j : ι} {v : α} : upo f j v j = v := if_pos rfl
theorem upo_ne {ι α : Type} [DecidableEq ι] {f : ι → α} {j i : ι} {v : α} (h : i ≠ j) : upo f j v i = f i := if_neg h
inductive Pr where
  | P | bx (a : Int) | pu (a : Int)
  deriving DecidableEq
abbrev sOn36 : List Nat := [111, 110]
abbrev sOff36 : List Nat := [111, 102, 102]
def planD (A : Pr → Addr) (l : List (Int × Bool)) : List (D × D) := encI (fun x => x) (l.map fun e => (e.1, D.tup [.str (if e.2 = true then sOn36 else sOff36), .ref (A (.bx e.1)), .ref (A (.pu e.1))]))
def own36 (n many a : Int) : List Int := (upTo n).filter fun b => decide (b % many = a)
def objP (A : Pr → Addr) (n many : Int) (g : Pn) : Pr → Option O
  | .P => some (.dic (planD A g.pl))
  | .bx a => if 0 ≤ a ∧ a < many then some (.lst ((own36 n many a).map D.int)) else none
  | .pu a => if 0 ≤ a ∧ a < many then some (.dic (encI D.int (g.pu a))) else none
structure Bo (p : Addr) (S : Hs) (L : Role → Addr) (s : Ks) (A : Pr → Addr) (pb : Pr → Option O) : Prop where
  k : KAt S L s
  x : At S A pb
  pp : ∃ v : Int, S p = some (.lst [.int v])
  d : Dis L (objK L s) A pb
  kp : ¬ foot L (objK L s) p
  xp : ¬ foot A pb p
section
variable {p : Addr} {S S' : Hs} {L L' : Role → Addr} {s s' : Ks} {A : Pr → Addr} {pb : Pr → Option O}
theorem Bo.sip (h : Bo p S L s A pb) {v : Int} (f : Fr p S S') (e : S' p = some (.lst [.int v])) : Bo p S' L s A pb := by
  refine ⟨⟨fun r o er => f _ _ (h.k.at_ r o er) fun z => h.kp ⟨r, by rw [er]; rfl, z⟩, h.k.inj⟩, ⟨fun r o er => f _ _ (h.x.at_ r o er) fun z => h.xp ⟨r, by rw [er]; rfl, z⟩, h.x.inj⟩, ⟨v, e⟩, h.d, h.kp, h.xp⟩
theorem Bo.kstep (h : Bo p S L s A pb) (st : KStep S L s S' L' s') : Bo p S' L' s' A pb := by
  have b : Step S L (objK L s) S' L' (objK L' s') := st.st
  obtain ⟨v, hp⟩ := h.pp
  refine ⟨b.to, (b.keep h.x h.d).1, ⟨v, b.fo _ _ hp h.kp⟩, (b.keep h.x h.d).2, fun f => ?_, h.xp⟩
  rcases b.nw p f with f | f
  · exact h.kp f
  · rw [hp] at f; cases f
theorem Bo.xupd (h : Bo p S L s A pb) (r : Pr) (o : O) (hr : (pb r).isSome) : Bo p (su S (A r) o) L s A (upo pb r (some o)) := by
  have live : ∀ q, (upo pb r (some o) q).isSome → (pb q).isSome := fun q hq => by
    by_cases z : q = r
    · rw [z]; exact hr
    · rw [upo_ne z] at hq; exact hq
  have foo : ∀ b, foot A (upo pb r (some o)) b → foot A pb b := fun b ⟨q, hq, e⟩ => ⟨q, live q hq, e⟩
  have rf : foot A pb (A r) := ⟨r, hr, rfl⟩
  obtain ⟨v, hp⟩ := h.pp
  refine ⟨⟨fun q x hq => ?_, h.k.inj⟩, ⟨fun q x hq => ?_, fun a b ha hb => h.x.inj a b (live a ha) (live b hb)⟩, ⟨v, ?_⟩, fun b f g => h.d b f (foo b g), h.kp, fun f => h.xp (foo _ f)⟩
  · rw [su_ne fun z => h.d (A r) ⟨q, by rw [hq]; rfl, z⟩ rf]
    exact h.k.at_ q x hq
  · by_cases z : q = r
    · rw [z, upo_same] at hq; cases hq
      rw [z]; exact su_same
    · rw [upo_ne z] at hq
      rw [su_ne fun y => z (h.x.inj q r (by rw [hq]; rfl) hr y)]
      exact h.x.at_ q x hq
  · rw [su_ne fun y => h.xp (by rw [y]; exact rf)]; exact hp
theorem Bo.grow (h : Bo p S L s A pb) (f : ∀ b o, S b = some o → S' b = some o) : Bo p S' L s A pb := by
  obtain ⟨v, hp⟩ := h.pp
  exact ⟨h.k.grow f, h.x.grow f, ⟨v, f _ _ hp⟩, h.d, h.kp, h.xp⟩
theorem Bo.eq (h : Bo p S L s A pb) {pb' : Pr → Option O} (e : ∀ r, pb' r = pb r) : Bo p S L s A pb' := by rw [show pb' = pb from funext e]; exact h
end
theorem ddrop_enc {α : Type} {f : α → D} (l : List (Int × α)) (x : Int) : ddrop (encI f l) (.int x) = encI f (l.filter fun e => decide (e.1 ≠ x)) := by
  unfold ddrop encI
  rw [List.filter_map]
  congr 1
  refine List.filter_congr fun e _ => ?_
  show (!eqB (.int e.1) (.int x)) = _
  rw [show eqB (.int e.1) (.int x) = decide (e.1 = x) from rfl]
  simp
theorem planD_drop (A : Pr → Addr) (l : List (Int × Bool)) (a : Int) : ddrop (planD A l) (.int a) = planD A (dropP l a) := by
  unfold planD dropP
  rw [ddrop_enc, List.filter_map]; rfl
theorem planD_get {A : Pr → Addr} {l : List (Int × Bool)} {a : Int} {x : Bool} (nd : (l.map Prod.fst).Nodup) (h : (a, x) ∈ l) : dget (planD A l) (.int a) = some (.tup [.str (if x = true then sOn36 else sOff36), .ref (A (.bx a)), .ref (A (.pu a))]) := by
  unfold planD
  rw [dget_enc]
  have : pget (l.map fun e => (e.1, D.tup [.str (if e.2 = true then sOn36 else sOff36), .ref (A (.bx e.1)), .ref (A (.pu e.1))])) a = some (.tup [.str (if x = true then sOn36 else sOff36), .ref (A (.bx a)), .ref (A (.pu a))]) :=
    pget_of (e := (a, D.tup [.str (if x = true then sOn36 else sOff36), .ref (A (.bx a)), .ref (A (.pu a))])) (by rw [List.map_map]; exact nd) (List.mem_map.mpr ⟨(a, x), h, rfl⟩)
  rw [this]; rfl
/-- the writes of an attempt -/
theorem compL_writes {tg : Tg} {ok : Sl → Hs → Prop} {elt : Sl → Hs → (D → Hs → Prop) → Prop} {tst : Sl → Hs → (Bool → Hs → Prop) → Prop} {σ : Sl} {K : List D → Hs → Prop} {p : Addr} {A : Pr → Addr} {pb : Pr → Option O} {L : Role → Addr} {s0 : Ks} {a : Int} {t : Att} (M : Nat)
    (hok : ∀ S s, Bo p S L s A pb → ok σ S)
    (turn : ∀ (x : D) (S : Hs) (s : Ks) (N : Nat) (b : Int) (r : List Int) (P1 : D → Hs → Prop) (P2 : Hs → Prop), Bo p S L s A pb → Kwf N s → N ≤ M → pget s.atts a = some { t with left := b :: r } → (∀ S', KStep S L s S' L (s.write a { t with left := b :: r }).1 → P1 (s.write a { t with left := b :: r }).2 S') →
      bindT tg x σ fun σ' => tst σ' S fun b S1 => Br b (elt σ' S1 P1) (P2 S1))
    (hr : ∀ x ∈ t.keys, 0 ≤ x ∧ x < s0.boxes.length) :
    ∀ (l : List Int) (items : List D) (s : Ks) (S : Hs) (acc : List D) (N : Nat), items.length = l.length → l ≠ [] → acc.length + l.length ≤ 100 → (∀ x ∈ l, x ∈ t.keys) → l.Nodup → Wr s0 s a t l → Bo p S L s A pb → Kwf N s → N + l.length ≤ M →
      (∀ s1 b S2 N2, N2 ≤ N + l.length → b ∈ t.keys → Wr s0 s1 a t [b] → Kwf N2 (s1.write a { t with left := [b] }).1 → Bo p S2 L (s1.write a { t with left := [b] }).1 A pb → K (acc ++ List.replicate (l.length - 1) (.str sWritten) ++ [(s1.write a { t with left := [b] }).2]) S2) → compL tg ok elt tst σ items acc S K
  | [], _, _, _, _, _, _, ne, _, _, _, _, _, _, _, _ => (ne rfl).elim
  | [b], items, s, S, acc, N, he, _, ha, hk, nd, h, bo, wf, hN, w => by
    match items, he with
    | [x], _ =>
      refine ⟨hok S s bo, turn x S s N b [] _ _ bo wf (by simp at hN; omega) h.at_ fun S' st' => ⟨Nat.lt_of_le_of_lt (show acc.length ≤ 100 by omega) (by decide), ?_⟩⟩
      have bo' := bo.kstep st'
      refine ⟨hok S' _ bo', ?_⟩
      have := w s b S' (N + 1) (Nat.le_refl _) (hk b List.mem_cons_self) h (wf.write h.at_) bo'
      simpa using this
  | b :: c :: r, items, s, S, acc, N, he, _, ha, hk, nd, h, bo, wf, hN, w => by
    match items, he with
    | x :: items, he =>
      have hst := h.step (hk b List.mem_cons_self) hr nd (by simp)
      rw [List.length_cons] at he
      rw [List.length_cons] at ha hN
      refine ⟨hok S s bo, turn x S s N b (c :: r) _ _ bo wf (by omega) h.at_ fun S' st' => ⟨Nat.lt_of_le_of_lt (show acc.length ≤ 100 by omega) (by decide), ?_⟩⟩
      have bo' := bo.kstep st'
      refine compL_writes M hok turn hr (c :: r) items _ S' _ (N + 1) (by simpa using he) (by simp) (by rw [List.length_append]; show acc.length + 1 + _ ≤ _; omega) (fun x hx => hk x (List.mem_cons_of_mem _ hx)) (List.nodup_cons.mp nd).2 hst.2 bo' (wf.write h.at_) (by omega) fun s1 b1 S2 N2 h1 h2 h3 h4 h5 => ?_
      have := w s1 b1 S2 N2 (by rw [List.length_cons]; omega) h2 h3 h4 h5
      rw [hst.1]
      have e : acc ++ [D.str sWritten] ++ List.replicate ((c :: r).length - 1) (D.str sWritten) = acc ++ List.replicate ((b :: c :: r).length - 1) (D.str sWritten) := by
        rw [List.append_assoc]
        congr 1
      rw [e]
      exact this
end LU

/-! O4: k36: the last calls walked. -/
namespace LU
open PySem L2 PySem.Spec PyProof.Rows DL LW
local macro_rules | `(tactic| walk_at "s1") => `(tactic| first | with_reducible refine one1_i ?_ | with_reducible refine storD ?_ | with_reducible refine storV ?_ | with_reducible refine storVd ?_ | with_reducible refine bxD ?_ | refine ⟨_, rfl, ?_⟩ | refine ⟨_, _, rfl, by assumption, ?_⟩ | refine ⟨_, _, _, rfl, by assumption, rfl, ?_⟩ | refine ⟨_, by assumption, ?_⟩ | refine ⟨rfl, ?_⟩ | refine ⟨.inl rfl, ?_⟩ | refine ⟨Nat.le_of_ble_eq_true rfl, ?_⟩)
local macro_rules | `(tactic| walk_at "go") => `(tactic| (walk_at "s1"; repeat ((fail_if_success with_reducible refine isS ?_); walk_at "s1")))
local macro_rules | `(tactic| walk_at "run") => `(tactic| repeat walk_at "s1")
structure KpT6 (T : Tbl) : Prop where
  c180 : T.fcls 180 = 10
  c181 : T.fcls 181 = 10
  c186 : T.fcls 186 = 10
  c187 : T.fcls 187 = 10
  c189 : T.fcls 189 = 10
  c190 : T.fcls 190 = 10
  c194 : T.fcls 194 = 10
  f187 : T.fn 187 = some f_Keeper_put
  f194 : T.fn 194 = some f_Keeper_now
theorem srt_len (l : List Int) : (srt l).length = l.length := (srt_perm l).length_eq
theorem ends36_ok {T : Tbl} (kt : KpT T) (k6 : KpT6 T) {k : Nat} (hT : T.fn k = some f_law_ends) (n : Nat) {p : Addr} {S : Hs} {L : Role → Addr} {s : Ks} {A : Pr → Addr} {nb many : Int} {g : Pn} {st : List Int} {N : Nat} {a : Int} {Q : VK2}
    (bo : Bo p S L s A (objP A nb many g)) (j : J36 st nb many g s N) (hN : N + 10 ≤ 4000) (m6 : nb ≤ 6) (ha : (a, true) ∈ g.pl)
    (w : ∀ S' L' s', Bo p S' L' s' A (objP A nb many ⟨dropP g.pl a, g.pu⟩) → J36 st nb many ⟨dropP g.pl a, g.pu⟩ s' (N + 10) → L' .k = L .k → Q (.d (.bl true)) S') :
    cal T (n + 5) k [.d (.ref (L .k)), .d (.ref (A .P)), .d (.int a)] S Q := by
  refine ⟨_, hT, rfl, rfl, ?_⟩
  obtain ⟨t, ht, ho, hs, hg, hp, hl⟩ := j.on a ha
  have c4 := fun (S : Hs) Q (h : KAt S L s) => take_ok kt n (a := a) (t := t) (Q := Q) h j.wf (by omega) k6.c180 ht ho hs
  have c5 := fun (S : Hs) (L : Role → Addr) (s : Ks) (N : Nat) (t : Att) (z b : Int) (r : List Int) Q h wf hN ha ho hs hl => write_ok kt (n + 2) (S := S) (L := L) (s := s) (N := N) (a := a) (t := t) (z := z) (b := b) (r := r) (Q := Q) h wf hN ha ho hs hl
  generalize cal T (n + 4) = c at c4 c5 ⊢
  have e1 : S (A .P) = some (.dic (planD A g.pl)) := bo.x.at_ .P _ rfl
  have e2 := planD_get (A := A) j.nd ha
  rw [if_pos rfl] at e2
  walk_at "s1"
  walk_at "s1"
  refine ⟨_, _, rfl, e1, _, rfl, _, _, _, rfl, rfl, e1, e2, ?_⟩
  rw [planD_drop]
  have arg := j.rg _ ha
  have bo1 := bo.xupd .P (.dic (planD A (dropP g.pl a))) rfl
  have eob : ∀ (pu : Int → List (Int × Int)), pu = g.pu → ∀ r, objP A nb many ⟨dropP g.pl a, pu⟩ r = upo (objP A nb many g) .P (some (.dic (planD A (dropP g.pl a)))) r := fun pu e r => by
    subst e
    cases r with
    | P => rw [upo_same]; rfl
    | bx c => rw [upo_ne (nofun : Pr.bx c ≠ Pr.P)]; rfl
    | pu c => rw [upo_ne (nofun : Pr.pu c ≠ Pr.P)]; rfl
  have bo1 := bo1.eq (eob g.pu rfl)
  generalize su S (A .P) (.dic (planD A (dropP g.pl a))) = S1 at bo1 ⊢
  have opu : objP A nb many ⟨dropP g.pl a, g.pu⟩ (.pu a) = some (.dic (encI D.int (g.pu a))) := if_pos arg
  have epu : S1 (A (.pu a)) = some (.dic (encI D.int (g.pu a))) := bo1.x.at_ (.pu a) _ opu
  have gk := bo1.k.rd.gkc k6.c189
  have emp : (encI D.int (g.pu a)).isEmpty = decide (g.pu a = []) := by cases g.pu a <;> rfl
  walk_at "run"
  by_cases hpu : g.pu a = []
  · obtain ⟨q1, q2⟩ := j.none_put ha ht hpu
    refine Br.of true (emp.trans (decide_eq_true hpu)) ?_
    rw [if_pos rfl]
    walk_at "run"
    refine c4 _ _ bo1.k fun S2 L' st2 => ?_
    rw [q1]
    walk_at "run"
    exact w _ _ _ (bo1.kstep st2) (q2.mono (by omega)) st2.k
  · refine Br.of false (emp.trans (decide_eq_false hpu)) ?_
    rw [if_neg (by decide)]
    walk_at "run"
    refine c4 _ _ bo1.k fun S2 L' st2 => ?_
    obtain ⟨q1, q2⟩ := j.taken ha ht hpu
    have wf2 := j.wf.take ht
    rw [q1] at st2 wf2 ⊢
    have bo2 := bo1.kstep st2
    have e2k : L' .k = L .k := st2.k
    walk_at "go"
    refine Br.ff ?_
    have epu2 : S2 (A (.pu a)) = some (.dic (encI D.int (g.pu a))) := bo2.x.at_ (.pu a) _ opu
    refine ⟨_, _, epu2, fun hob => ?_⟩
    have bo3 := bo2.xupd (.pu a) (.fdc (encI D.int (g.pu a)) hob) (by rw [opu]; rfl)
    have e3 : (su S2 (A (.pu a)) (.fdc (encI D.int (g.pu a)) hob)) (A (.pu a)) = some (.fdc (encI D.int (g.pu a)) hob) := su_same
    generalize hS3 : su S2 (A (.pu a)) (.fdc (encI D.int (g.pu a)) hob) = S3 at bo3 e3 ⊢
    walk_at "run"
    refine ⟨_, _, _, rfl, e3, ?_⟩
    have kk : ∀ b ∈ t.keys, 0 ≤ b ∧ b < nb ∧ b % many = a := fun b hb => by
      unfold Att.keys at hb
      rw [hp] at hb
      obtain ⟨p, hp, rfl⟩ := List.mem_map.mp hb
      exact j.pk a p hp
    have klen : t.keys.length = (g.pu a).length := by unfold Att.keys; rw [hp, List.length_map]
    have knd : t.keys.Nodup := by unfold Att.keys; rw [hp]; exact j.pn a
    have k6n : t.keys.length ≤ 6 := by
      exact nodup_le 6 _ knd fun x hx => ⟨(kk x hx).1, by have := (kk x hx).2.1; omega⟩
    have bl := j.bl
    refine compL_writes (A := A) (L := L') (s0 := s.takes a t) (a := a) (t := { t with stamp := some (s.time + 1) }) 3999 (fun S s b => b.x.at_ (.pu a) _ upo_same) (fun x S s' N' b r P1 P2 bo' wf' hN' ga w' => ?_) (fun x hx => ⟨(kk x hx).1, by have := (kk x hx).2.1; show x < s.boxes.length; omega⟩)
      (srt t.keys) _ _ _ [] (N + 1) ?_ ?_ ?_ (fun x hx => srt_mem.mp hx) ((srt_perm _).nodup_iff.mpr knd) q2 bo3 wf2 ?_ fun s1 b S4 N2 h1 h2 h3 h4 h5 => ?_
    · refine Br.tt ?_
      have gk := bo'.k.rd.gkc k6.c190
      rw [← e2k]
      walk_at "run"
      refine c5 _ L' s' N' _ (s.time + 1) b r _ bo'.k wf' (by omega) ga ho rfl rfl fun S' st' => ?_
      have rs : ResK (s'.write a { t with stamp := some (s.time + 1), left := b :: r }).2 := by
        unfold Ks.write
        split
        · exact .non
        · split
          · exact .done
          · exact .written
      have w2 := w' S' st'
      generalize hz : (s'.write a { t with stamp := some (s.time + 1), left := b :: r }).2 = d at rs w2 ⊢
      cases rs <;> exact w2
    · rw [List.length_map]; unfold encI; rw [List.length_map, srt_len, klen]
    · intro e
      have := srt_len t.keys
      rw [e, klen] at this
      exact hpu (List.length_eq_zero_iff.mp this.symm)
    · rw [srt_len, List.length_nil]; omega
    · rw [srt_len]; omega
    · obtain ⟨z1, z2⟩ := j.written ha ht h3 h2 h4
      refine (?_ : ∀ d, d = D.str sDone → one1 _ [Vx.vl (_ ++ [d])] S4) _ z1
      rintro d rfl
      walk_at "s1"
      refine ⟨h5.x.at_ (.pu a) _ upo_same, ?_⟩
      have bo5 := (h5.xupd (.pu a) (.dic (encI D.int (g.pu a))) (by rw [upo_same]; rfl)).eq (pb' := objP A nb many ⟨dropP g.pl a, g.pu⟩) fun r => by
        by_cases q : r = .pu a
        · rw [q, upo_same]; exact opu
        · rw [upo_ne q, upo_ne q]
      have e5 : (su S4 (A (.pu a)) (.dic (encI D.int (g.pu a)))) (A (.pu a)) = some (.dic (encI D.int (g.pu a))) := su_same
      generalize su S4 (A (.pu a)) (.dic (encI D.int (g.pu a))) = S5 at bo5 e5 ⊢
      have el : (encI D.int (g.pu a)).length = t.keys.length := by unfold encI; rw [List.length_map, klen]
      have m1 : (srt t.keys).length - 1 = (((t.keys.length : Nat) : Int) - 1).toNat := by rw [srt_len]; omega
      have er : repD [D.str sWritten] (((t.keys.length : Nat) : Int) - 1).toNat = List.replicate (((t.keys.length : Nat) : Int) - 1).toNat (D.str sWritten) := by
        unfold repD
        exact List.flatten_replicate_singleton
      have pr : ∀ k : Nat, plns (List.replicate k (D.str sWritten) ++ [D.str sDone]) = true := fun k => by
        induction k with
        | zero => rfl
        | succ k ih => rw [List.replicate_succ]; exact ih
      rw [m1]
      walk_at "run"
      rw [el]
      have big : 100 ≤ sizeLine := by decide
      refine ⟨by omega, by omega, by simp only [List.length_singleton]; omega, ?_⟩
      rw [show (D.str [119, 114, 105, 116, 116, 101, 110]) = D.str sWritten from rfl, er]
      generalize hmk : (((t.keys.length : Nat) : Int) - 1).toNat = mk
      have hmk6 : mk ≤ 6 := by omega
      walk_at "run"
      refine ⟨by rw [List.length_replicate]; simp only [List.length_singleton]; omega, ?_⟩
      refine ⟨.inr ⟨pr mk, pr mk⟩, ?_⟩
      show Q (.d (.bl (eqBs (List.replicate mk (D.str sWritten) ++ [D.str sDone]) (List.replicate mk (D.str sWritten) ++ [D.str sDone])))) S5
      rw [eqBs_refl 60 _ (pr mk)]
      exact w _ _ _ bo5 (z2.mono (by rw [srt_len] at h1; omega)) e2k
end LU

/-! O5: k36: a call walked. -/
namespace LU
open PySem L2 PySem.Spec PyProof.Rows DL LW
local macro_rules | `(tactic| walk_at "s1") => `(tactic| first | with_reducible refine one1_i ?_ | with_reducible refine storD ?_ | with_reducible refine storV ?_ | with_reducible refine storVd ?_ | with_reducible refine bxD ?_ | refine ⟨_, rfl, ?_⟩ | refine ⟨_, _, rfl, by assumption, ?_⟩ | refine ⟨_, _, _, rfl, by assumption, rfl, ?_⟩ | refine ⟨_, by assumption, ?_⟩ | refine ⟨rfl, ?_⟩ | refine ⟨.inl rfl, ?_⟩ | refine ⟨Nat.le_of_ble_eq_true rfl, ?_⟩)
local macro_rules | `(tactic| walk_at "go") => `(tactic| (walk_at "s1"; repeat ((fail_if_success with_reducible refine isS ?_); walk_at "s1")))
local macro_rules | `(tactic| walk_at "run") => `(tactic| repeat walk_at "s1")
theorem planD_on {A : Pr → Addr} {l : List (Int × Bool)} {a : Int} {x : Bool} (nd : (l.map Prod.fst).Nodup) (h : (a, x) ∈ l) : dput (planD A l) (.int a) (.tup [.str sOn36, .ref (A (.bx a)), .ref (A (.pu a))]) = planD A (goOn l a) := by
  unfold planD
  refine (dput_enc (f := fun x => x) _ a (D.tup [.str sOn36, .ref (A (.bx a)), .ref (A (.pu a))])).trans ?_
  congr 1
  have hs : (pget (l.map fun e => (e.1, D.tup [.str (if e.2 = true then sOn36 else sOff36), .ref (A (.bx e.1)), .ref (A (.pu e.1))])) a).isSome = true := by
    have := pget_of (kvs := l.map fun e => (e.1, D.tup [.str (if e.2 = true then sOn36 else sOff36), .ref (A (.bx e.1)), .ref (A (.pu e.1))])) (e := (a, D.tup [.str (if x = true then sOn36 else sOff36), .ref (A (.bx a)), .ref (A (.pu a))])) (by rw [List.map_map]; exact nd) (List.mem_map.mpr ⟨(a, x), h, rfl⟩)
    have this : pget _ a = _ := this
    rw [this]; rfl
  unfold pput goOn
  rw [hs]
  simp only [if_true, List.map_map]
  refine List.map_congr_left fun e he => ?_
  show (if e.1 = a then (e.1, _) else _) = _
  by_cases q : e.1 = a
  · show (if e.1 = a then _ else _) = ((if e.1 = a then (a, true) else e).1, D.tup [.str (if (if e.1 = a then (a, true) else e).2 = true then sOn36 else sOff36), .ref (A (.bx (if e.1 = a then (a, true) else e).1)), .ref (A (.pu (if e.1 = a then (a, true) else e).1))])
    rw [if_pos q, if_pos q]
    show (e.1, _) = _
    rw [q]; rfl
  · show (if e.1 = a then _ else _) = ((if e.1 = a then (a, true) else e).1, D.tup [.str (if (if e.1 = a then (a, true) else e).2 = true then sOn36 else sOff36), .ref (A (.bx (if e.1 = a then (a, true) else e).1)), .ref (A (.pu (if e.1 = a then (a, true) else e).1))])
    rw [if_neg q, if_neg q]
theorem own_mem {n many a b : Int} : b ∈ own36 n many a ↔ (0 ≤ b ∧ b < n) ∧ b % many = a := by
  unfold own36
  rw [List.mem_filter, upTo_mem, decide_eq_true_eq]
theorem goes36_ok {T : Tbl} (kt : KpT T) (k6 : KpT6 T) (h7 : T.fn 147 = some f_law_sip) (h229 : T.fn 229 = some f_law_ends) {k : Nat} (hT : T.fn k = some f_law_goes) (n : Nat) {p : Addr} {S : Hs} {L : Role → Addr} {s : Ks} {A : Pr → Addr} {nb many wh : Int} {g : Pn} {st : List Int} {N : Nat} {a : Int} {x : Bool} {Q : VK2}
    (bo : Bo p S L s A (objP A nb many g)) (j : J36 st nb many g s N) (hN : N + 10 ≤ 4000) (m6 : nb ≤ 6) (mm : 1 ≤ many ∧ many ≤ nb) (hwh : 1 ≤ wh ∧ wh ≤ 1000) (hst : (st.length : Int) = nb) (ha : (a, x) ∈ g.pl)
    (w : ∀ S' L' s' g', Bo p S' L' s' A (objP A nb many g') → J36 st nb many g' s' (N + 10) → L' .k = L .k → Q (.d (.bl true)) S') :
    cal T (n + 6) k [.d (.ref p), .d (.tup [.int nb, .int wh]), .d (.tup (st.map D.int)), .d (.ref (L .k)), .d (.ref (A .P)), .d (.int a)] S Q := by
  refine ⟨_, hT, rfl, rfl, ?_⟩
  have hs := fun (S : Hs) (v m : Int) Q (h : S p = some (.lst [.int v])) => sip_ok h7 (n + 4) (m := m) (Q := Q) h
  have c1 := fun (S : Hs) (L : Role → Addr) Q (h : KAt S L s) ha => begin_ok kt (n + 3) (S := S) (L := L) (s := s) (a := a) (Q := Q) h j.wf (by omega) ha
  have c2 := fun (S : Hs) (b : Int) (t : Att) Q (h : KAt S L s) ha ho hs hb => look_ok kt (n + 1) (a := a) (b := b) (t := t) (Q := Q) h j.wf (by omega) k6.c180 ha ho hs hb
  have c3 := fun (S : Hs) (b v : Int) (t : Att) Q (h : KAt S L s) ha ho hs => put_ok kt (n + 2) (a := a) (b := b) (v := v) (t := t) (Q := Q) h j.wf (by omega) k6.c180 k6.f187 ha ho hs
  have c4 := fun (S : Hs) Q bo ha w => ends36_ok kt k6 h229 n (S := S) (p := p) (L := L) (s := s) (A := A) (nb := nb) (many := many) (g := g) (st := st) (N := N) (a := a) (Q := Q) bo j hN m6 ha w
  generalize cal T (n + 5) = c at hs c1 c2 c3 c4 ⊢
  have e1 : S (A .P) = some (.dic (planD A g.pl)) := bo.x.at_ .P _ rfl
  have e2 := planD_get (A := A) j.nd ha
  have arg := j.rg _ ha
  have ebx : S (A (.bx a)) = some (.lst ((own36 nb many a).map D.int)) := bo.x.at_ (.bx a) _ (if_pos arg)
  have epu : S (A (.pu a)) = some (.dic (encI D.int (g.pu a))) := bo.x.at_ (.pu a) _ (if_pos arg)
  have opos : 0 < (own36 nb many a).length := List.length_pos_iff.mpr fun e => by
    have : a ∈ own36 nb many a := own_mem.mpr ⟨⟨arg.1, by have := arg.2; have : a < many := arg.2; omega⟩, Int.emod_eq_of_lt arg.1 arg.2⟩
    rw [e] at this; cases this
  have olen : (own36 nb many a).length ≤ 6 := by
    have : (own36 nb many a).length ≤ (upTo nb).length := List.length_filter_le _ _
    rw [upTo_len] at this; omega
  have pll : g.pl.length ≤ 6 := by
    have := nodup_le 6 (g.pl.map Prod.fst) j.nd fun y hy => by
      obtain ⟨e, he, rfl⟩ := List.mem_map.mp hy
      have := j.rg e he
      exact ⟨this.1, by omega⟩
    rwa [List.length_map] at this
  obtain ⟨v, hp⟩ := bo.pp
  walk_at "run"
  refine hs _ _ _ _ hp (by rw [List.length_map]; omega) (by rw [List.length_map]; omega) fun d v2 d0 d1 => ?_
  rw [List.length_map] at d1
  have bo := bo.sip (v := v2) (S' := su S p (.lst [.int v2])) Fr.pen su_same
  have hp2 : (su S p (.lst [.int v2])) p = some (.lst [.int v2]) := su_same
  clear e1 ebx epu hp
  generalize su S p (.lst [.int v2]) = S1 at bo hp2 ⊢
  have e1 : S1 (A .P) = some (.dic (planD A g.pl)) := bo.x.at_ .P _ rfl
  have ebx : S1 (A (.bx a)) = some (.lst ((own36 nb many a).map D.int)) := bo.x.at_ (.bx a) _ (if_pos arg)
  have epu : S1 (A (.pu a)) = some (.dic (encI D.int (g.pu a))) := bo.x.at_ (.pu a) _ (if_pos arg)
  walk_at "run"
  refine idx_ints d0 d1 fun b hb => ?_
  obtain ⟨⟨b0, b1⟩, bm⟩ := own_mem.mp hb
  cases x with
  | false =>
    obtain ⟨q1, q2⟩ := j.off a ha
    walk_at "run"
    refine Br.tt ?_
    walk_at "run"
    refine ⟨Nat.lt_of_le_of_lt (show (planD A g.pl).length ≤ 6 by unfold planD encI; rw [List.length_map, List.length_map]; exact pll) (by decide), _, rfl, ?_⟩
    show DL.wpS T c _ _ (su S1 (A .P) (.dic (dput (planD A g.pl) (.int a) (.tup [.str sOn36, .ref (A (.bx a)), .ref (A (.pu a))])))) _ _ _ _
    rw [planD_on j.nd ha]
    have bo2 := (bo.xupd .P (.dic (planD A (goOn g.pl a))) rfl).eq (pb' := objP A nb many ⟨goOn g.pl a, g.pu⟩) fun r => by
      cases r with
      | P => rw [upo_same]; rfl
      | bx c => rw [upo_ne (nofun : Pr.bx c ≠ Pr.P)]; rfl
      | pu c => rw [upo_ne (nofun : Pr.pu c ≠ Pr.P)]; rfl
    generalize su S1 (A .P) (.dic (planD A (goOn g.pl a))) = S2 at bo2 ⊢
    have gk := bo2.k.rd.gkc k6.c181
    walk_at "run"
    refine c1 _ L _ bo2.k q1 fun S3 L' st3 => ?_
    walk_at "run"
    exact w _ _ _ _ (bo2.kstep st3) ((j.begin ha).mono (by omega)) st3.k
  | true =>
    obtain ⟨t, ht, ho, hst2, hg, hpu, hl⟩ := j.on a ha
    have gst : getI (st.map D.int) b = some (.int (st.getD b.toNat 0)) := getI_get b0 (by omega)
    have gd : (dget (encI D.int (g.pu a)) (.int b)).getD (.int (st.getD b.toNat 0)) = .int ((pget (g.pu a) b).getD (stB st b)) := by
      rw [dget_enc]
      cases pget (g.pu a) b <;> rfl
    have hb : inR s b := ⟨b0, by rw [j.bl]; exact b1⟩
    walk_at "run"
    refine Br.ff ?_
    walk_at "run"
    refine hs _ _ _ _ hp2 (by decide) (by decide) fun d v3 _ _ => ?_
    have bo := bo.sip (v := v3) (S' := su S1 p (.lst [.int v3])) Fr.pen su_same
    have hp3 : (su S1 p (.lst [.int v3])) p = some (.lst [.int v3]) := su_same
    clear e1 ebx epu hp2
    generalize su S1 p (.lst [.int v3]) = S2 at bo hp3 ⊢
    have e1 : S2 (A .P) = some (.dic (planD A g.pl)) := bo.x.at_ .P _ rfl
    have epu : S2 (A (.pu a)) = some (.dic (encI D.int (g.pu a))) := bo.x.at_ (.pu a) _ (if_pos arg)
    have gk2 := bo.k.rd.gkc k6.c186
    have gk3 := bo.k.rd.gkc k6.c187
    walk_at "run"
    refine Br.mk (fun _ => ?_) (fun _ => ?_)
    · walk_at "run"
      refine c2 _ b t _ bo.k ht ho hst2 hb fun S3 st3 => ?_
      obtain ⟨z1, z2⟩ := j.look ha ht b0 b1 bm
      rw [z1]
      have bo3 := bo.kstep st3
      have epu3 : S3 (A (.pu a)) = some (.dic (encI D.int (g.pu a))) := bo3.x.at_ (.pu a) _ (if_pos arg)
      walk_at "run"
      refine ⟨⟨_, epu3, _, rfl⟩, ?_⟩
      walk_at "run"
      refine ⟨_, _, _, rfl, rfl, rfl, rfl, ?_⟩
      rw [gd]
      walk_at "run"
      show Q (.d (.bl (eqB (rNum ((pget (g.pu a) b).getD (stB st b))) (rNum ((pget (g.pu a) b).getD (stB st b)))))) S3
      rw [eqB_refl 60 _ rfl]
      exact w _ _ _ g bo3 (z2.mono (by omega)) st3.k
    · walk_at "run"
      refine Br.mk (fun _ => ?_) (fun _ => ?_)
      · walk_at "run"
        refine hs _ _ _ _ hp3 (by omega) (by omega) fun y v4 _ _ => ?_
        have bo := bo.sip (v := v4) (S' := su S2 p (.lst [.int v4])) Fr.pen su_same
        clear e1 epu hp3 gk2 gk3
        generalize su S2 p (.lst [.int v4]) = S3 at bo ⊢
        have epu : S3 (A (.pu a)) = some (.dic (encI D.int (g.pu a))) := bo.x.at_ (.pu a) _ (if_pos arg)
        have pul : (g.pu a).length ≤ 6 := by
          have := nodup_le 6 ((g.pu a).map Prod.fst) (j.pn a) fun y hy => by
            obtain ⟨e, he, rfl⟩ := List.mem_map.mp hy
            have := j.pk a e he
            exact ⟨this.1, by omega⟩
          rwa [List.length_map] at this
        walk_at "run"
        refine ⟨Nat.lt_of_le_of_lt (show (encI D.int (g.pu a)).length ≤ 6 by unfold encI; rw [List.length_map]; exact pul) (by decide), _, rfl, ?_⟩
        show DL.wpS T c _ _ (su S3 (A (.pu a)) (.dic (dput (encI D.int (g.pu a)) (.int b) (.int y)))) _ _ _ _
        rw [dput_enc]
        have bo4 := (bo.xupd (.pu a) (.dic (encI D.int (pput (g.pu a) b y))) (by rw [show objP A nb many g (.pu a) = _ from if_pos arg]; rfl)).eq (pb' := objP A nb many ⟨g.pl, fun c => if c = a then pput (g.pu a) b y else g.pu c⟩) fun r => by
          by_cases q : r = .pu a
          · rw [q, upo_same]
            show (if 0 ≤ a ∧ a < many then some (O.dic (encI D.int (if a = a then _ else _))) else none) = _
            rw [if_pos arg, if_pos rfl]
          · rw [upo_ne q]
            cases r with
            | P => rfl
            | bx c => rfl
            | pu c =>
              have qc : c ≠ a := fun e => q (by rw [e])
              show (if 0 ≤ c ∧ c < many then some (O.dic (encI D.int (if c = a then _ else _))) else none) = (if 0 ≤ c ∧ c < many then _ else none)
              rw [if_neg qc]
        have epu4 : (su S3 (A (.pu a)) (.dic (encI D.int (pput (g.pu a) b y)))) (A (.pu a)) = some (.dic (encI D.int (pput (g.pu a) b y))) := su_same
        generalize su S3 (A (.pu a)) (.dic (encI D.int (pput (g.pu a) b y))) = S4 at bo4 epu4 ⊢
        have gk3 := bo4.k.rd.gkc k6.c187
        have gy : dget (encI D.int (pput (g.pu a) b y)) (.int b) = some (.int y) := by rw [dget_enc, pget_put, if_pos rfl]; rfl
        walk_at "run"
        refine c3 _ b y t _ bo4.k ht ho hst2 fun S5 st5 => ?_
        walk_at "run"
        exact w _ _ _ _ (bo4.kstep st5) ((j.put ha ht b0 b1 bm).mono (by omega)) st5.k
      · walk_at "run"
        refine c4 _ _ bo ha fun S' L' s' bo' j' e => ?_
        walk_at "run"
        exact w _ _ _ _ bo' j' e
end LU

/-! O6: k36: the end of a turn over a cell. -/
namespace LU
open PySem L2 PySem.Spec PyProof.Rows DL LW
local macro_rules | `(tactic| walk_at "s1") => `(tactic| first | with_reducible refine one1_i ?_ | with_reducible refine storD ?_ | with_reducible refine storV ?_ | with_reducible refine storVd ?_ | with_reducible refine bxD ?_ | refine ⟨_, rfl, ?_⟩ | refine ⟨_, _, rfl, by assumption, ?_⟩ | refine ⟨_, _, _, rfl, by assumption, rfl, ?_⟩ | refine ⟨_, by assumption, ?_⟩ | refine ⟨rfl, ?_⟩ | refine ⟨.inl rfl, ?_⟩ | refine ⟨Nat.le_of_ble_eq_true rfl, ?_⟩)
local macro_rules | `(tactic| walk_at "go") => `(tactic| (walk_at "s1"; repeat ((fail_if_success with_reducible refine isS ?_); walk_at "s1")))
local macro_rules | `(tactic| walk_at "run") => `(tactic| repeat walk_at "s1")
abbrev sl36 (ns : List Int) (s1 s2 s3 s4 : Option Vx) (st : List Int) (s6 s7 : Option Vx) (K0 P0 : Addr) (s10 : Option Vx) (wl : Vx) (s12 s13 s14 s15 : Option Vx) : Sl := [some (.fz (ns.map D.int)), s1, s2, s3, s4, some (.d (.tup (st.map D.int))), s6, s7, some (.d (.ref K0)), some (.d (.ref P0)), s10, some wl, s12, s13, s14, s15]
abbrev T36 : DL.R := (.seq (.for (.nm 10) (.ite (.o1 .listK (.v 9))) (.iff (.and (.o2 .eq (.o2 .idx (.o2 .idx (.v 9) (.v 10)) (.i 0)) (.s [111, 110])) (.one (.not (.call 229 (.cons (.v 8) (.cons (.v 9) (.cons (.v 10) .nil))))))) (.ret (.b false)) .skip)) (.seq (.set 14 (.o1 .list (.v 5))) (.seq (.for (.nm 15) (.itv 11) (.lock (.for (.nm 6) (.itk (.v 15)) (.oseti 14 (.v 6) (.o2 .idx (.v 15) (.v 6)))))) (.iff (.o2 .ne (.meth 194 (.v 8) .nil) (.o1 .tuple (.v 14))) (.ret (.b false)) .skip))))
def dueF (st : List Int) (many : Int) (g : Pn) (b : Int) : Int := (pget (g.pu (b % many)) b).getD (stB st b)
theorem due_end {st : List Int} {nb many : Int} {g : Pn} {s : Ks} {N : Nat} (j : J36 st nb many g s N) (off : ∀ e ∈ g.pl, e.2 = false) {b : Int} (b0 : 0 ≤ b) (b1 : b < nb) : s.box b = dueF st many g b := by
  by_cases q : b % many ∈ g.pl.map Prod.fst
  · obtain ⟨e, he, q2⟩ := List.mem_map.mp q
    have : (e.1, false) ∈ g.pl := by have := off e he; rw [← this]; exact he
    unfold dueF
    rw [(j.live b b0 b1 q).2.2, ← q2, (j.off _ this).2]; rfl
  · exact j.gone b b0 b1 q
theorem tail36 {T : Tbl} (kt : KpT T) (k6 : KpT6 T) (h229 : T.fn 229 = some f_law_ends) (n : Nat) {ns : List Int} {p : Addr} {S : Hs} {L : Role → Addr} {s : Ks} {A : Pr → Addr} {nb many : Int} {g : Pn} {st : List Int} {N : Nat} {K0 : Addr} {s1 s2 s3 s4 s6 s7 s10 s12 s13 s14 s15 : Option Vx} {kk : SK2} {B C : SK2}
    (bo : Bo p S L s A (objP A nb many g)) (j : J36 st nb many g s N) (hN : N ≤ 900) (m6 : nb ≤ 6) (mm : 1 ≤ many ∧ many ≤ nb) (hst : (st.length : Int) = nb) (hk : L .k = K0)
    (w : ∀ s1 s2 s3 s4 s5 s6 s7 s8 s9 s10 s11 s12 s13 s14 s15 S', kk [some (.fz (ns.map D.int)), s1, s2, s3, s4, s5, s6, s7, s8, s9, s10, s11, s12, s13, s14, s15] S') :
    DL.wpS T (cal T (n + 5)) T36 (sl36 ns s1 s2 s3 s4 st s6 s7 K0 (A .P) s10 (.vl ((upTo many).map fun a => .ref (A (.pu a)))) s12 s13 s14 s15) S kk (fun r _ => r = .d (.bl true)) B C := by
  have c4 := fun (S : Hs) (L : Role → Addr) (s : Ks) (g : Pn) (N : Nat) (a : Int) Q bo j hN ha w => ends36_ok kt k6 h229 n (S := S) (p := p) (L := L) (s := s) (A := A) (nb := nb) (many := many) (g := g) (st := st) (N := N) (a := a) (Q := Q) bo j hN m6 ha w
  have c5 := fun (S : Hs) (L : Role → Addr) (s : Ks) Q h => know_ok (n + 4) (S := S) (L := L) (s := s) (Q := Q) k6.f194 h
  generalize cal T (n + 5) = c at c4 c5 ⊢
  have pll : g.pl.length ≤ 6 := by
    have := nodup_le 6 (g.pl.map Prod.fst) j.nd fun y hy => by
      obtain ⟨e, he, rfl⟩ := List.mem_map.mp hy
      have := j.rg e he
      exact ⟨this.1, by omega⟩
    rwa [List.length_map] at this
  have e1 : S (A .P) = some (.dic (planD A g.pl)) := bo.x.at_ .P _ rfl
  have ek : ∀ l : List (Int × Bool), (planD A l).map Prod.fst = l.map fun e => D.int e.1 := fun l => by
    unfold planD encI
    rw [List.map_map, List.map_map]; rfl
  walk_at "run"
  refine forL_map' (fun e : Int × Bool => D.int e.1) g.pl (ek _) (fun rest σ S' => ∃ (L : Role → Addr) (s : Ks) (g : Pn) (N : Nat) (s10 : Option Vx), σ = sl36 ns s1 s2 s3 s4 st s6 s7 K0 (A .P) s10 (.vl ((upTo many).map fun a => .ref (A (.pu a)))) s12 s13 s14 s15 ∧ Bo p S' L s A (objP A nb many g) ∧ J36 st nb many g s N ∧ N + 10 * rest.length ≤ 960 ∧ L .k = K0 ∧ (rest.map Prod.fst).Nodup ∧ (∀ e ∈ rest, e ∈ g.pl) ∧ (∀ e ∈ g.pl, e.2 = true → e ∈ rest)) (fun _ _ _ _ => trivial) ?_ ?_ _ _ ⟨L, s, g, N, _, rfl, bo, j, by omega, hk, j.nd, fun _ h => h, fun _ h _ => h⟩
  · rintro σ S' ⟨L, s, g, N, s10, rfl, bo, j, hN, hk, _, _, hon⟩
    have off : ∀ e ∈ g.pl, e.2 = false := fun e he => by
      cases q : e.2 with
      | false => rfl
      | true => cases hon e he q
    show DL.wpS _ _ _ _ _ _ _ _ _
    walk_at "run"
    have nodu : (upTo many).Nodup := upTo_nodup many
    refine forL_map' (fun a : Int => D.ref (A (.pu a))) (upTo many) rfl (fun rest σ S2 => ∃ (pre : List Int) (du : List Int) (s6 s15 : Option Vx), σ = sl36 ns s1 s2 s3 s4 st s6 s7 K0 (A .P) s10 (.bw ((upTo many).map fun a => .ref (A (.pu a)))) s12 s13 (some (.vl (du.map D.int))) s15 ∧ upTo many = pre ++ rest ∧ Bo p S2 L s A (objP A nb many g) ∧ du.length = st.length ∧ ∀ b, 0 ≤ b → b < nb → du.getD b.toNat 0 = if b % many ∈ pre then dueF st many g b else stB st b) (fun _ _ _ _ => trivial) ?_ ?_ _ _ ⟨[], st, _, _, rfl, rfl, bo, rfl, fun b _ _ => rfl⟩
    · rintro σ S2 ⟨pre, du, s6, s15, rfl, hpre, bo, hdl, hdu⟩
      rw [List.append_nil] at hpre
      show DL.wpS _ _ _ _ _ _ _ _ _
      rw [← hk]
      have gk := bo.k.rd.gkc k6.c194
      walk_at "run"
      refine c5 _ L s _ bo.k ?_
      walk_at "run"
      have bl := j.bl
      have eb : du = s.boxes := by
        refine List.ext_getElem (by omega) fun i h1 h2 => ?_
        have q := hdu (i : Int) (by omega) (by omega)
        rw [if_pos (by rw [← hpre]; exact upTo_mem.mpr ⟨Int.emod_nonneg _ (by omega), Int.emod_lt_of_pos _ (by omega)⟩), ← due_end j off (b := (i : Int)) (by omega) (by omega)] at q
        have q : du.getD ((i : Nat) : Int).toNat 0 = s.boxes.getD ((i : Nat) : Int).toNat 0 := q
        rw [show (((i : Nat) : Int)).toNat = i by omega, List.getD_eq_getElem?_getD, List.getD_eq_getElem?_getD, List.getElem?_eq_getElem h1, List.getElem?_eq_getElem h2] at q
        exact q
      rw [eb]
      have pt := pln_tups s.boxes
      refine ⟨pt, pt, ?_⟩
      have ee : (!eqB (.tup (s.boxes.map D.int)) (.tup (s.boxes.map D.int))) = false := by rw [eqB_refl 60 _ pt]; rfl
      refine Br.of false ee ?_
      rw [if_neg (by decide)]
      exact w _ _ _ _ _ _ _ _ _ _ _ _ _ _ _ _
    rintro a rest ha ⟨pre0, hpre0⟩ k3 σ S2 hk3 ⟨pre, du, s6, s15, rfl, hpre, bo, hdl, hdu⟩
    have arg := upTo_mem.mp ha
    have opu : objP A nb many g (.pu a) = some (.dic (encI D.int (g.pu a))) := if_pos arg
    have epu : S2 (A (.pu a)) = some (.dic (encI D.int (g.pu a))) := bo.x.at_ (.pu a) _ opu
    show DL.wpS _ _ _ _ _ _ _ _ _
    refine ⟨_, _, epu, fun hob => ?_⟩
    have bo3 := bo.xupd (.pu a) (.fdc (encI D.int (g.pu a)) hob) (by rw [opu]; rfl)
    have e3 : (su S2 (A (.pu a)) (.fdc (encI D.int (g.pu a)) hob)) (A (.pu a)) = some (.fdc (encI D.int (g.pu a)) hob) := su_same
    generalize su S2 (A (.pu a)) (.fdc (encI D.int (g.pu a)) hob) = S3 at bo3 e3 ⊢
    walk_at "run"
    refine ⟨_, _, _, rfl, e3, ?_⟩
    have na : a ∉ pre := fun z => by
      have := upTo_nodup many
      rw [hpre] at this
      exact (List.nodup_append.mp this).2.2 a z a List.mem_cons_self rfl
    have pgn : ∀ b, b % many = a → b ∉ (g.pu a).map Prod.fst → dueF st many g b = stB st b := fun b q h => by
      unfold dueF
      rw [q]
      have : pget (g.pu a) b = none := pget_none.mpr fun e he z => h (by rw [← z]; exact List.mem_map_of_mem (f := Prod.fst) he)
      rw [this]; rfl
    refine forL_map' (fun e : Int × Int => D.int e.1) (g.pu a) (by unfold encI; rw [List.map_map]; rfl) (fun rest2 σ S' => ∃ (du : List Int) (s6 : Option Vx), σ = sl36 ns s1 s2 s3 s4 st s6 s7 K0 (A .P) s10 (.bw ((upTo many).map fun a => .ref (A (.pu a)))) s12 s13 (some (.vl (du.map D.int))) (some (.d (.ref (A (.pu a))))) ∧ S' = S3 ∧ du.length = st.length ∧ (rest2.map Prod.fst).Nodup ∧ (∀ e ∈ rest2, e ∈ g.pu a) ∧
      ∀ b, 0 ≤ b → b < nb → du.getD b.toNat 0 = if b % many ∈ pre then dueF st many g b else if b % many = a ∧ b ∉ rest2.map Prod.fst then dueF st many g b else stB st b) (fun rest2 σ S' h => by obtain ⟨_, _, _, rfl, _⟩ := h; exact e3) ?_ ?_ _ _ ⟨du, _, rfl, rfl, hdl, j.pn a, fun _ h => h, fun b b0 b1 => ?_⟩
    · rintro σ S' ⟨du, s6, rfl, rfl, hdl, _, _, hdu⟩
      refine ⟨e3, ?_⟩
      have bo5 := (bo3.xupd (.pu a) (.dic (encI D.int (g.pu a))) (by rw [upo_same]; rfl)).eq (pb' := objP A nb many g) fun r => by
        by_cases q : r = .pu a
        · rw [q, upo_same]; exact opu
        · rw [upo_ne q, upo_ne q]
      refine hk3 _ _ ⟨pre ++ [a], du, _, _, rfl, by rw [hpre]; simp, bo5, hdl, fun b b0 b1 => ?_⟩
      rw [hdu b b0 b1]
      by_cases q1 : b % many ∈ pre
      · rw [if_pos q1, if_pos (List.mem_append_left _ q1)]
      · rw [if_neg q1]
        by_cases q2 : b % many = a
        · rw [if_pos ⟨q2, by simp⟩, if_pos (by rw [q2]; simp)]
        · rw [if_neg (fun z => q2 z.1), if_neg (fun z => (List.mem_append.mp z).elim q1 fun z => q2 (by simpa using z))]
    · rintro ⟨kx, vx⟩ rest2 _ _ k4 σ S' hk4 ⟨du, s6, rfl, rfl, hdl, hnd2, hin2, hdu⟩
      have he := hin2 _ List.mem_cons_self
      obtain ⟨x0, x1, xm⟩ := j.pk a _ he
      have gx := pget_of (j.pn a) he
      have gd : dget (encI D.int (g.pu a)) (.int kx) = some (.int vx) := by
        rw [dget_enc]
        have gx : pget (g.pu a) kx = some vx := gx
        rw [gx]; rfl
      show DL.wpS _ _ _ _ _ _ _ _ _
      walk_at "run"
      have x0 : 0 ≤ kx := x0
      have x1 : kx < nb := x1
      have xm : kx % many = a := xm
      have hx1 : kx < du.length := by omega
      refine setI_ints (l := du) (i := kx) (v := vx) x0 hx1 ?_
      have hcons := List.nodup_cons.mp hnd2
      refine hk4 _ _ ⟨du.set kx.toNat vx, _, rfl, rfl, by rw [List.length_set]; exact hdl, hcons.2, fun e h => hin2 e (List.mem_cons_of_mem _ h), fun b b0 b1 => ?_⟩
      rw [set_getD (by omega)]
      by_cases qb : b = kx
      · subst qb
        rw [if_pos rfl, if_neg (by rw [xm]; exact na), if_pos ⟨xm, hcons.1⟩]
        unfold dueF
        rw [xm]
        have gx : pget (g.pu a) b = some vx := gx
        rw [gx]; rfl
      · rw [if_neg (by omega), hdu b b0 b1]
        by_cases q1 : b % many ∈ pre
        · rw [if_pos q1, if_pos q1]
        · rw [if_neg q1, if_neg q1]
          by_cases q2 : b % many = a ∧ b ∉ rest2.map Prod.fst
          · rw [if_pos q2, if_pos ⟨q2.1, fun z => by
              rcases List.mem_cons.mp z with z | z
              · exact qb z
              · exact q2.2 z⟩]
          · rw [if_neg q2, if_neg fun z => q2 ⟨z.1, fun y => z.2 (List.mem_cons_of_mem _ y)⟩]
    · rw [hdu b b0 b1]
      by_cases q1 : b % many ∈ pre
      · rw [if_pos q1, if_pos q1]
      · rw [if_neg q1, if_neg q1]
        by_cases q2 : b % many = a ∧ b ∉ (g.pu a).map Prod.fst
        · rw [if_pos q2]; exact (pgn b q2.1 q2.2).symm
        · rw [if_neg q2]
  rintro ⟨a, x⟩ rest _ _ k2 σ S' hk2 ⟨L, s, g, N, s10, rfl, bo, j, hN, hk, hnd, hin, hon⟩
  rw [List.length_cons] at hN
  have ha := hin _ List.mem_cons_self
  have e1 : S' (A .P) = some (.dic (planD A g.pl)) := bo.x.at_ .P _ rfl
  have e2 := planD_get (A := A) j.nd ha
  show DL.wpS _ _ _ _ _ _ _ _ _
  walk_at "run"
  cases x with
  | false =>
    refine ⟨rfl, rfl, Br.ff (Br.ff ?_)⟩
    exact hk2 _ _ ⟨L, s, g, N, _, rfl, bo, j, by omega, hk, (List.nodup_cons.mp hnd).2, fun e he => hin e (List.mem_cons_of_mem _ he), fun e he q => by
      rcases List.mem_cons.mp (hon e he q) with z | z
      · rw [z] at q; cases q
      · exact z⟩
  | true =>
    refine ⟨rfl, rfl, Br.tt ?_⟩
    rw [← hk]
    walk_at "run"
    refine c4 _ L s g N a _ bo j (by omega) ha fun S2 L' s' bo' j' e => ?_
    rw [hk]
    walk_at "run"
    refine Br.ff ?_
    exact hk2 _ _ ⟨L', s', _, N + 10, _, rfl, bo', j', by omega, e.trans hk, (List.nodup_cons.mp hnd).2, fun e he => dropP_mem.mpr ⟨hin e (List.mem_cons_of_mem _ he), fun q => (List.nodup_cons.mp hnd).1 (by show a ∈ rest.map Prod.fst; exact q ▸ List.mem_map_of_mem (f := Prod.fst) he)⟩, fun e he q => by
      obtain ⟨h1, h2⟩ := dropP_mem.mp he
      rcases List.mem_cons.mp (hon e h1 q) with z | z
      · rw [z] at h2; exact (h2 rfl).elim
      · exact z⟩
end LU

/-! O7: k36: the plan made. -/
namespace LU
open PySem L2 PySem.Spec PyProof.Rows DL LW
local macro_rules | `(tactic| walk_at "s1") => `(tactic| first | with_reducible refine one1_i ?_ | with_reducible refine storD ?_ | with_reducible refine storV ?_ | with_reducible refine storVd ?_ | with_reducible refine bxD ?_ | refine ⟨_, rfl, ?_⟩ | refine ⟨_, _, rfl, by assumption, ?_⟩ | refine ⟨_, _, _, rfl, by assumption, rfl, ?_⟩ | refine ⟨_, by assumption, ?_⟩ | refine ⟨rfl, ?_⟩ | refine ⟨.inl rfl, ?_⟩ | refine ⟨Nat.le_of_ble_eq_true rfl, ?_⟩)
local macro_rules | `(tactic| walk_at "go") => `(tactic| (walk_at "s1"; repeat ((fail_if_success with_reducible refine isS ?_); walk_at "s1")))
local macro_rules | `(tactic| walk_at "run") => `(tactic| repeat walk_at "s1")
section
variable {p : Addr} {S S' : Hs} {L L' : Role → Addr} {s s' : Ks} {A : Pr → Addr} {pb : Pr → Option O}
theorem Bo.new (h : Bo p S L s A pb) (r : Pr) (hr : pb r = none) {l : Addr} (hl : S l = none) (o : O) : Bo p (su S l o) L s (upo A r l) (upo pb r (some o)) := by
  have g : ∀ b x, S b = some x → su S l o b = some x := fun b x e => by rw [su_ne fun q => by rw [q, hl] at e; cases e]; exact e
  have nr : ∀ q, (pb q).isSome → q ≠ r := fun q hq z => by rw [z, hr] at hq; cases hq
  have lv : ∀ q, (upo pb r (some o) q).isSome → q ≠ r → (pb q).isSome := fun q hq z => by rw [upo_ne z] at hq; exact hq
  have nl : ∀ q, (pb q).isSome → A q ≠ l := fun q hq z => by
    obtain ⟨x, hx⟩ := Option.isSome_iff_exists.mp hq
    have := h.x.at_ q x hx
    rw [z, hl] at this; cases this
  have fo : ∀ b, foot (upo A r l) (upo pb r (some o)) b → b = l ∨ foot A pb b := fun b ⟨q, hq, e⟩ => by
    by_cases z : q = r
    · rw [z, upo_same] at e; exact .inl e.symm
    · rw [upo_ne z] at e; exact .inr ⟨q, lv q hq z, e⟩
  obtain ⟨v, hp⟩ := h.pp
  refine ⟨h.k.grow g, ⟨fun q x hq => ?_, fun a b ha hb e => ?_⟩, ⟨v, g _ _ hp⟩, fun b f k => ?_, h.kp, fun f => ?_⟩
  · by_cases z : q = r
    · rw [z, upo_same] at hq; cases hq
      rw [z, upo_same]; exact su_same
    · rw [upo_ne z] at hq; rw [upo_ne z]; exact g _ _ (h.x.at_ q x hq)
  · by_cases za : a = r
    · by_cases zb : b = r
      · rw [za, zb]
      · rw [za, upo_same, upo_ne zb] at e; exact (nl b (lv b hb zb) e.symm).elim
    · by_cases zb : b = r
      · rw [upo_ne za, zb, upo_same] at e; exact (nl a (lv a ha za) e).elim
      · rw [upo_ne za, upo_ne zb] at e; exact h.x.inj a b (lv a ha za) (lv b hb zb) e
  · rcases fo b k with k | k
    · obtain ⟨x, e⟩ := h.k.live f
      rw [k, hl] at e; cases e
    · exact h.d b f k
  · rcases fo p f with k | k
    · rw [k, hl] at hp; cases hp
    · exact h.xp k
end
def offs (pre : List Int) : List (Int × Bool) := pre.map fun a => (a, false)
def objQ (A : Pr → Addr) (n many : Int) (pre : List Int) : Pr → Option O
  | .P => some (.dic (planD A (offs pre)))
  | .bx a => if a ∈ pre then some (.lst ((own36 n many a).map D.int)) else none
  | .pu a => if a ∈ pre then some (.dic []) else none
theorem planD_congr {A A' : Pr → Addr} {pre : List Int} (h : ∀ a ∈ pre, A' (.bx a) = A (.bx a) ∧ A' (.pu a) = A (.pu a)) : planD A' (offs pre) = planD A (offs pre) := by
  unfold planD encI offs
  rw [List.map_map, List.map_map, List.map_map, List.map_map]
  refine List.map_congr_left fun a ha => ?_
  obtain ⟨h1, h2⟩ := h a ha
  show (D.int a, D.tup [_, D.ref (A' (.bx a)), D.ref (A' (.pu a))]) = (D.int a, D.tup [_, D.ref (A (.bx a)), D.ref (A (.pu a))])
  rw [h1, h2]
theorem planD_snoc {A : Pr → Addr} {pre : List Int} {x : Int} (hx : x ∉ pre) : dput (planD A (offs pre)) (.int x) (.tup [.str sOff36, .ref (A (.bx x)), .ref (A (.pu x))]) = planD A (offs (pre ++ [x])) := by
  have hn : pget ((offs pre).map fun e => (e.1, D.tup [.str (if e.2 = true then sOn36 else sOff36), .ref (A (.bx e.1)), .ref (A (.pu e.1))])) x = none := pget_none.mpr fun e he q => by
    obtain ⟨e', he', rfl⟩ := List.mem_map.mp he
    obtain ⟨a, ha, rfl⟩ := List.mem_map.mp he'
    exact hx (by rw [← q]; exact ha)
  unfold planD
  refine (dput_enc (f := fun x => x) _ x (D.tup [.str sOff36, .ref (A (.bx x)), .ref (A (.pu x))])).trans ?_
  rw [pput_new hn]
  unfold offs
  rw [List.map_append, List.map_append]; rfl
theorem plan_step {p : Addr} {S : Hs} {L : Role → Addr} {s : Ks} {A : Pr → Addr} {n many : Int} {pre : List Int} {x : Int} {l1 l2 : Addr} (h : Bo p S L s A (objQ A n many pre)) (hx : x ∉ pre) (h1 : S l1 = none) (h2 : su S l1 (.lst ((own36 n many x).map D.int)) l2 = none) :
    ∃ A', A' .P = A .P ∧ A' (.bx x) = l1 ∧ A' (.pu x) = l2 ∧ Bo p (su (su (su S l1 (.lst ((own36 n many x).map D.int))) l2 (.dic [])) (A .P) (.dic (dput (planD A (offs pre)) (.int x) (.tup [.str sOff36, .ref l1, .ref l2])))) L s A' (objQ A' n many (pre ++ [x])) := by
  have b1 := h.new (.bx x) (if_neg hx) h1 (.lst ((own36 n many x).map D.int))
  have b2 := b1.new (.pu x) (by rw [upo_ne (nofun : Pr.pu x ≠ Pr.bx x)]; exact if_neg hx) h2 (.dic [])
  have eP : upo (upo A (.bx x) l1) (.pu x) l2 .P = A .P := by rw [upo_ne (nofun : Pr.P ≠ Pr.pu x), upo_ne (nofun : Pr.P ≠ Pr.bx x)]
  have eb : upo (upo A (.bx x) l1) (.pu x) l2 (.bx x) = l1 := by rw [upo_ne (nofun : Pr.bx x ≠ Pr.pu x), upo_same]
  have eu : upo (upo A (.bx x) l1) (.pu x) l2 (.pu x) = l2 := upo_same
  have ec : ∀ a ∈ pre, upo (upo A (.bx x) l1) (.pu x) l2 (.bx a) = A (.bx a) ∧ upo (upo A (.bx x) l1) (.pu x) l2 (.pu a) = A (.pu a) := fun a ha => by
    have na : a ≠ x := fun z => hx (by rw [← z]; exact ha)
    exact ⟨by rw [upo_ne (nofun : Pr.bx a ≠ Pr.pu x), upo_ne (fun z => na (by cases z; rfl))], by rw [upo_ne (fun z => na (by cases z; rfl)), upo_ne (nofun : Pr.pu a ≠ Pr.bx x)]⟩
  generalize hA : upo (upo A (.bx x) l1) (.pu x) l2 = A' at b2 eP eb eu ec
  have b3 := b2.xupd .P (.dic (dput (planD A (offs pre)) (.int x) (.tup [.str sOff36, .ref l1, .ref l2]))) (by rw [upo_ne (nofun : Pr.P ≠ Pr.pu x), upo_ne (nofun : Pr.P ≠ Pr.bx x)]; rfl)
  rw [eP] at b3
  refine ⟨A', eP, eb, eu, b3.eq fun r => ?_⟩
  cases r with
  | P =>
    rw [upo_same]
    show some (O.dic (planD A' (offs (pre ++ [x])))) = _
    rw [← planD_snoc (A := A') hx, planD_congr ec, eb, eu]
  | bx a =>
    rw [upo_ne (nofun : Pr.bx a ≠ Pr.P), upo_ne (nofun : Pr.bx a ≠ Pr.pu x)]
    by_cases q : a = x
    · subst q
      rw [upo_same]
      exact if_pos (by simp)
    · rw [upo_ne (fun z => q (by cases z; rfl))]
      show (if a ∈ pre ++ [x] then _ else _) = (if a ∈ pre then _ else _)
      by_cases z : a ∈ pre
      · rw [if_pos z, if_pos (List.mem_append_left _ z)]
      · rw [if_neg z, if_neg fun y => (List.mem_append.mp y).elim z fun y => q (by simpa using y)]
  | pu a =>
    rw [upo_ne (nofun : Pr.pu a ≠ Pr.P)]
    by_cases q : a = x
    · subst q
      rw [upo_same]
      exact if_pos (by simp)
    · rw [upo_ne (fun z => q (by cases z; rfl)), upo_ne (nofun : Pr.pu a ≠ Pr.bx x)]
      show (if a ∈ pre ++ [x] then _ else _) = (if a ∈ pre then _ else _)
      by_cases z : a ∈ pre
      · rw [if_pos z, if_pos (List.mem_append_left _ z)]
      · rw [if_neg z, if_neg fun y => (List.mem_append.mp y).elim z fun y => q (by simpa using y)]
theorem objQ_end {A : Pr → Addr} {n many : Int} : ∀ r, objP A n many ⟨offs (upTo many), fun _ => []⟩ r = objQ A n many (upTo many) r := fun r => by
  cases r with
  | P => rfl
  | bx a =>
    show (if 0 ≤ a ∧ a < many then _ else _) = (if a ∈ upTo many then _ else _)
    by_cases z : 0 ≤ a ∧ a < many
    · rw [if_pos z, if_pos (upTo_mem.mpr z)]
    · rw [if_neg z, if_neg fun y => z (upTo_mem.mp y)]
  | pu a =>
    show (if 0 ≤ a ∧ a < many then _ else _) = (if a ∈ upTo many then _ else _)
    by_cases z : 0 ≤ a ∧ a < many
    · rw [if_pos z, if_pos (upTo_mem.mpr z)]; rfl
    · rw [if_neg z, if_neg fun y => z (upTo_mem.mp y)]
/-- at the start -/
theorem J36.start {wd : D} {st : List Int} {nb many : Int} (hst : (st.length : Int) = nb) (m6 : nb ≤ 6) : J36 st nb many ⟨offs (upTo many), fun _ => []⟩ (Ks.new wd st) 0 := by
  have of : (offs (upTo many)).map Prod.fst = upTo many := by unfold offs; rw [List.map_map]; exact List.map_id' _
  refine ⟨Kwf.new (by omega), Int.le_refl _, hst, by show ((offs _).map _).Nodup; rw [of]; exact upTo_nodup many, fun e he => ?_, fun a p hp => (by cases hp), fun a => List.nodup_nil, fun a ha => ⟨rfl, rfl⟩, fun a ha => ?_, fun b b0 b1 _ => ⟨?_, ?_, rfl⟩, fun b b0 b1 _ => rfl⟩
  · obtain ⟨a, ha, rfl⟩ := List.mem_map.mp he
    exact upTo_mem.mp ha
  · obtain ⟨c, _, q⟩ := List.mem_map.mp ha
    cases q
  · show (List.replicate st.length (0 : Int)).getD b.toNat 0 = 0
    rw [List.getD_eq_getElem?_getD, List.getElem?_replicate]; split <;> rfl
  · show (List.replicate st.length (none : Option Int)).getD b.toNat none = none
    rw [List.getD_eq_getElem?_getD, List.getElem?_replicate]; split <;> rfl
end LU

/-! O8: k36. -/
namespace LU
open PySem L2 PySem.Spec PyProof.Rows DL LW
local macro_rules | `(tactic| walk_at "s1") => `(tactic| first | with_reducible refine one1_i ?_ | with_reducible refine storD ?_ | with_reducible refine storV ?_ | with_reducible refine storVd ?_ | with_reducible refine bxD ?_ | refine ⟨_, rfl, ?_⟩ | refine ⟨_, _, rfl, by assumption, ?_⟩ | refine ⟨_, _, _, rfl, by assumption, rfl, ?_⟩ | refine ⟨_, by assumption, ?_⟩ | refine ⟨rfl, ?_⟩ | refine ⟨.inl rfl, ?_⟩ | refine ⟨Nat.le_of_ble_eq_true rfl, ?_⟩)
local macro_rules | `(tactic| walk_at "go") => `(tactic| (walk_at "s1"; repeat ((fail_if_success with_reducible refine isS ?_); walk_at "s1")))
local macro_rules | `(tactic| walk_at "run") => `(tactic| repeat walk_at "s1")
abbrev se36 (ns : List Int) (i : Int) (p : Addr) (nb wh many : Int) (st : List Int) (K0 P0 : Addr) (s6 s10 s11 s12 s13 s14 s15 : Option Vx) : Sl := [some (.fz (ns.map D.int)), some (.d (.int i)), some (.d (.ref p)), some (.d (.int nb)), some (.d (.tup [.int nb, .int wh])), some (.d (.tup (st.map D.int))), s6, some (.d (.int many)), some (.d (.ref K0)), some (.d (.ref P0)), s10, s11, s12, s13, s14, s15]
structure K36T (T : Tbl) : Prop where
  kt : KpT T
  k6 : KpT6 T
  f146 : T.fn 146 = some f_law_well
  f147 : T.fn 147 = some f_law_sip
  f228 : T.fn 228 = some f_law_goes
  f229 : T.fn 229 = some f_law_ends
theorem law_ok36 {T : Tbl} (t : K36T T) (k : Nat) (hT : T.fn k = some f_law_35) (n : Nat) {ns : List Int} : cal T (n + 7) k [.fz (ns.map D.int)] (fun _ => none) fun r _ => r = .d (.bl true) := by
  refine ⟨_, hT, rfl, rfl, ?_⟩
  have c6 := fun (S : Hs) (k : Int) Q => well_ok t.f146 (n + 5) (S := S) (ns := ns) (k := k) (Q := Q)
  have c7 := fun (S : Hs) (p : Addr) (v m : Int) Q (h : S p = some (.lst [.int v])) => sip_ok t.f147 (n + 5) (m := m) (Q := Q) h
  have c9 := fun (S : Hs) (wd : D) (st : List Int) Q hs w => kmake_ok t.kt (n + 5) (S := S) (wd := wd) (st := st) (Q := Q) hs w
  have c10 := fun (p : Addr) (S : Hs) (L : Role → Addr) (s : Ks) (A : Pr → Addr) (nb many wh : Int) (g : Pn) (st : List Int) (N : Nat) (a : Int) (x : Bool) Q bo j hN m6 mm hwh hst ha w => goes36_ok t.kt t.k6 t.f147 t.f229 t.f228 n (p := p) (S := S) (L := L) (s := s) (A := A) (nb := nb) (many := many) (wh := wh) (g := g) (st := st) (N := N) (a := a) (x := x) (Q := Q) bo j hN m6 mm hwh hst ha w
  have c11 := fun (p : Addr) (S : Hs) (L : Role → Addr) (s : Ks) (A : Pr → Addr) (nb many : Int) (g : Pn) (st : List Int) (N : Nat) (K0 : Addr) s1 s2 s3 s4 s6 s7 s10 s12 s13 s14 s15 (kk : SK2) B C bo j hN m6 mm hst hk w => tail36 t.kt t.k6 t.f229 (n + 1) (ns := ns) (p := p) (S := S) (L := L) (s := s) (A := A) (nb := nb) (many := many) (g := g) (st := st) (N := N) (K0 := K0) (s1 := s1) (s2 := s2) (s3 := s3) (s4 := s4) (s6 := s6) (s7 := s7) (s10 := s10) (s12 := s12) (s13 := s13) (s14 := s14) (s15 := s15) (kk := kk) (B := B) (C := C) bo j hN m6 mm hst hk w
  change ∀ (p : Addr) (S : Hs) (L : Role → Addr) (s : Ks) (A : Pr → Addr) (nb many : Int) (g : Pn) (st : List Int) (N : Nat) (K0 : Addr) s1 s2 s3 s4 s6 s7 s10 s12 s13 s14 s15 (kk : SK2) B C (bo : _) (j : _) (hN : _) (m6 : _) (mm : _) (hst : _) (hk : _) (w : _), DL.wpS T (cal T (n + 6)) _ _ _ _ _ _ _ at c11
  generalize cal T (n + 6) = c at c6 c7 c9 c10 c11 ⊢
  obtain ⟨z, hz, z0, z1⟩ := rng_bd 2 5 (by decide) (by decide) (ns.map D.int).length
  refine ⟨_, rfl, ⟨_, rfl, ⟨z, ?_, by omega, by omega, ?_⟩⟩⟩
  · rw [← hz]
  refine forL_map' D.int (upTo z) (rngD_ints _) (fun _ σ S => ∃ s1 s2 s3 s4 s5 s6 s7 s8 s9 s10 s11 s12 s13 s14 s15 : Option Vx, σ = [some (.fz (ns.map D.int)), s1, s2, s3, s4, s5, s6, s7, s8, s9, s10, s11, s12, s13, s14, s15]) (fun _ _ _ _ => trivial) ?_ ?_ _ _ ⟨_, _, _, _, _, _, _, _, _, _, _, _, _, _, _, rfl⟩
  · rintro σ S ⟨s1, s2, s3, s4, s5, s6, s7, s8, s9, s10, s11, s12, s13, s14, s15, rfl⟩
    rfl
  rintro i rest hi _ kk σ S hk ⟨s1, s2, s3, s4, s5, s6, s7, s8, s9, s10, s11, s12, s13, s14, s15, rfl⟩
  have hi := upTo_mem.mp hi
  show DL.wpS _ _ _ _ _ _ _ _ _
  walk_at "go"
  refine c6 _ _ _ hi.1 (by omega) fun v => ?_
  walk_at "run"
  intro p hp
  have ep : (su S p (.lst [.int v])) p = some (.lst [.int v]) := su_same
  generalize su S p (.lst [.int v]) = S1 at ep ⊢
  walk_at "run"
  refine c7 _ _ _ _ _ ep (by decide) (by decide) fun nb0 v2 n0 n1 => ?_
  have ep2 : (su S1 p (.lst [.int v2])) p = some (.lst [.int v2]) := su_same
  generalize su S1 p (.lst [.int v2]) = S2 at ep2 ⊢
  walk_at "run"
  refine c7 _ _ _ _ _ ep2 (by decide) (by decide) fun d v3 d0 d1 => ?_
  have ep3 : (su S2 p (.lst [.int v3])) p = some (.lst [.int v3]) := su_same
  generalize su S2 p (.lst [.int v3]) = S3 at ep3 ⊢
  refine idx_ints (l := [2, 3, 7, 1000]) d0 d1 fun wh hwh => ?_
  have hwh : 1 ≤ wh ∧ wh ≤ 1000 := by simp at hwh; omega
  obtain ⟨nb, hnb⟩ : ∃ nb, nb = 2 + nb0 := ⟨_, rfl⟩
  rw [← hnb]
  walk_at "run"
  refine ⟨by omega, by omega, ?_⟩
  refine compL_cnt (fun acc S' => (∃ l : List Int, acc = l.map D.int) ∧ ∃ v', S' p = some (.lst [.int v'])) nb.toNat (fun _ _ _ => trivial) (Nat.le_trans (show nb.toNat ≤ 6 by omega) (by decide)) (fun acc S4 hlen hI => ?_) _ (fun x hx acc S' _ hI P1 P2 hP => ?_) _ _ ?_ ⟨⟨[], rfl⟩, _, ep3⟩
  · obtain ⟨⟨st, rfl⟩, v4, ep4⟩ := hI
    rw [List.length_map] at hlen
    have hst : (st.length : Int) = nb := by omega
    walk_at "run"
    have w3b : 1 ≤ (if nb - 1 < 3 then nb - 1 else 3) ∧ (if nb - 1 < 3 then nb - 1 else 3) ≤ 3 ∧ (if nb - 1 < 3 then nb - 1 else 3) ≤ nb - 1 := by
      split <;> omega
    refine c7 _ _ _ (if nb - 1 < 3 then nb - 1 else 3) _ ep4 (by omega) (by omega) fun d2 v5 d20 d21 => ?_
    have ep5 : (su S4 p (.lst [.int v5])) p = some (.lst [.int v5]) := su_same
    generalize su S4 p (.lst [.int v5]) = S5 at ep5 ⊢
    obtain ⟨many, hmany⟩ : ∃ many, many = 2 + d2 := ⟨_, rfl⟩
    have mm : 1 ≤ many ∧ many ≤ nb := by omega
    walk_at "run"
    rw [← hmany]
    intro y hy
    refine c9 _ (.tup [.int nb, .int wh]) st (fun r S => one1 _ [r] S) (by omega) (fun S6 L kat fr nw => ?_) y hy
    clear hy y
    have ep6 := fr _ _ ep5
    walk_at "run"
    intro aP nP
    have fP := Ext.su (o := .dic []) (fun b o (e : S6 b = some o) => e) nP
    have gP : (su S6 aP (.dic [])) aP = some (.dic []) := su_same
    generalize su S6 aP (.dic []) = S7 at fP gP ⊢
    walk_at "run"
    refine ⟨by omega, by omega, ?_⟩
    have bo0 : Bo p S7 L (Ks.new (.tup [.int nb, .int wh]) st) (fun _ => aP) (objQ (fun _ => aP) nb many []) := by
      have xf : ∀ b, foot (fun _ : Pr => aP) (objQ (fun _ => aP) nb many []) b → b = aP := fun b ⟨_, _, e⟩ => e.symm
      refine ⟨kat.grow fP, ⟨fun r o e => ?_, fun r q hr hq _ => ?_⟩, ⟨v5, fP _ _ ep6⟩, fun b f g => ?_, fun f => ?_, fun f => ?_⟩
      · cases r with
        | P => cases e; exact gP
        | bx a => cases e
        | pu a => cases e
      · cases r with
        | P =>
          cases q with
          | P => rfl
          | bx a => cases hq
          | pu a => cases hq
        | bx a => cases hr
        | pu a => cases hr
      · obtain ⟨o, e⟩ := kat.live f
        rw [xf b g, nP] at e; cases e
      · rw [nw p f] at ep5; cases ep5
      · rw [xf p f, nP] at ep6; cases ep6
    obtain ⟨K0, hK0⟩ : ∃ K0, L .k = K0 := ⟨_, rfl⟩
    rw [hK0]
    clear kat fr nw ep6 fP gP nP ep5
    refine forL_map' D.int (upTo many) (rngD_ints _) (fun rest σ S' => ∃ (A : Pr → Addr) (pre : List Int) (s6 s10 : Option Vx), σ = se36 ns i p nb wh many st K0 aP s6 s10 s11 s12 s13 s14 s15 ∧ upTo many = pre ++ rest ∧ A .P = aP ∧ Bo p S' L (Ks.new (.tup [.int nb, .int wh]) st) A (objQ A nb many pre)) (fun _ _ _ _ => trivial) ?_ ?_ _ _ ⟨_, [], _, _, rfl, rfl, rfl, bo0⟩
    · rintro σ S' ⟨A, pre, s6, s10, rfl, hpre, hAP, bo⟩
      rw [List.append_nil] at hpre
      subst hpre
      have bo := bo.eq (objQ_end (A := A) (n := nb) (many := many))
      show DL.wpS _ _ _ _ _ _ _ _ _
      walk_at "run"
      refine ⟨by omega, by omega, ?_⟩
      have e1 : S' aP = some (.dic (planD A (offs (upTo many)))) := by rw [← hAP]; exact bo.x.at_ .P _ rfl
      have nod : ((offs (upTo many)).map Prod.fst).Nodup := by
        rw [show (offs (upTo many)).map Prod.fst = upTo many by unfold offs; rw [List.map_map]; exact List.map_id' _]
        exact upTo_nodup many
      refine compL_fm' D.int (fun a => some (.ref (A (.pu a)))) (upTo many) (rngD_ints _) trivial (fun a ha P1 P2 h1 _ => ?_) ?_ ?_
      · refine Br.tt ?_
        have e2 := planD_get (A := A) (a := a) (x := false) nod (List.mem_map.mpr ⟨a, ha, rfl⟩)
        walk_at "run"
        exact h1 _ rfl
      · rw [upTo_len]; exact Nat.le_trans (show many.toNat ≤ 6 by omega) (by decide)
      rw [show ((upTo many).filterMap fun a => some (D.ref (A (.pu a)))) = (upTo many).map fun a => D.ref (A (.pu a)) by rw [List.filterMap_eq_map']]
      walk_at "run"
      refine ⟨by decide, by decide, ?_⟩
      subst hAP
      have aft : ∀ (L : Role → Addr) (s : Ks) (g : Pn) (N : Nat) s6 s10 s12 s13 s14 s15 S B C, Bo p S L s A (objP A nb many g) → J36 st nb many g s N → N ≤ 900 → L .k = K0 → DL.wpS T c T36 (se36 ns i p nb wh many st K0 (A .P) s6 s10 (some (.vl ((upTo many).map fun a => D.ref (A (.pu a))))) s12 s13 s14 s15) S kk (fun r _ => r = .d (.bl true)) B C := by
        intro L s g N s6 s10 s12 s13 s14 s15 S B C bo j hN hk0
        exact c11 p S L s A nb many g st N K0 _ _ _ _ _ _ _ _ _ _ _ kk B C bo j hN (by omega) mm hst hk0 fun _ _ _ _ _ _ _ _ _ _ _ _ _ _ _ S' => hk _ _ ⟨_, _, _, _, _, _, _, _, _, _, _, _, _, _, _, rfl⟩
      refine forL_map' D.int (upTo 80) (rngD_ints _) (fun rest σ S => ∃ (L : Role → Addr) (s : Ks) (g : Pn) (N : Nat) (s6 s10 s12 s13 s14 s15 : Option Vx), σ = se36 ns i p nb wh many st K0 (A .P) s6 s10 (some (.vl ((upTo many).map fun a => D.ref (A (.pu a))))) s12 s13 s14 s15 ∧ Bo p S L s A (objP A nb many g) ∧ J36 st nb many g s N ∧ N + 10 * rest.length ≤ 800 ∧ L .k = K0) (fun _ _ _ _ => trivial) ?_ ?_ _ _ ⟨L, _, _, 0, _, _, _, _, _, _, rfl, bo, J36.start hst (by omega), by rw [upTo_len]; decide, hK0⟩
      · rintro σ S ⟨L, s, g, N, s6, s10, s12, s13, s14, s15, rfl, bo, j, hN, hk0⟩
        exact aft _ _ _ _ _ _ _ _ _ _ _ _ _ bo j (by omega) hk0
      rintro u rest2 _ _ k3 σ S9 hk3 ⟨L, s, g, N, s6, s10, s12, s13, s14, s15, rfl, bo, j, hN, hk0⟩
      rw [List.length_cons] at hN
      have e1 : S9 (A .P) = some (.dic (planD A g.pl)) := bo.x.at_ .P _ rfl
      have ek : (planD A g.pl).map Prod.fst = g.pl.map fun e => D.int e.1 := by
        unfold planD encI
        rw [List.map_map, List.map_map]; rfl
      have pll : g.pl.length ≤ 6 := by
        have := nodup_le 6 (g.pl.map Prod.fst) j.nd fun y hy => by
          obtain ⟨e, he, rfl⟩ := List.mem_map.mp hy
          have := j.rg e he
          exact ⟨this.1, by omega⟩
        rwa [List.length_map] at this
      have em : eqBs (g.pl.map fun e => D.int e.1) [] = decide (g.pl = []) := by cases g.pl <;> rfl
      show DL.wpS _ _ _ _ _ _ _ _ _
      walk_at "go"
      rw [ek]
      walk_at "run"
      by_cases hpl : g.pl = []
      · refine Br.of true (em.trans (decide_eq_true hpl)) ?_
        rw [if_pos rfl]
        exact aft _ _ _ _ _ _ _ _ _ _ _ _ _ bo j (by omega) hk0
      refine Br.of false (em.trans (decide_eq_false hpl)) ?_
      rw [if_neg (by decide)]
      have gpos : 0 < g.pl.length := List.length_pos_iff.mpr hpl
      obtain ⟨v8, ep8⟩ := bo.pp
      walk_at "run"
      refine c7 _ _ _ _ _ ep8 (by rw [List.length_map]; omega) (by rw [List.length_map]; omega) fun d v9 d0 d1 => ?_
      rw [List.length_map] at d1
      have bo := bo.sip (v := v9) (S' := su S9 p (.lst [.int v9])) Fr.pen su_same
      generalize su S9 p (.lst [.int v9]) = S10 at bo ⊢
      refine idx_any d0 (by rw [List.length_map]; exact d1) fun y hy => ?_
      obtain ⟨⟨a, x⟩, ha, rfl⟩ := List.mem_map.mp hy
      rw [← hk0]
      walk_at "run"
      refine c10 p _ L s A nb many wh g st N a x _ bo j (by omega) (by omega) mm hwh hst ha fun S11 L' s' g' bo' j' e => ?_
      rw [hk0]
      walk_at "run"
      refine Br.ff ?_
      exact hk3 _ _ ⟨L', s', g', N + 10, _, _, _, _, _, _, rfl, bo', j', by omega, e.trans hk0⟩
    rintro x rest hx _ k2 σ S8 hk2 ⟨A, pre, s6, s10, rfl, hpre, hAP, bo⟩
    have nx : x ∉ pre := fun z => by
      have := upTo_nodup many
      rw [hpre] at this
      exact (List.nodup_append.mp this).2.2 x z x List.mem_cons_self rfl
    show DL.wpS _ _ _ _ _ _ _ _ _
    walk_at "run"
    refine ⟨by omega, by omega, ?_⟩
    refine compL_fm' D.int (fun b => if decide (b % many = x) = true then some (.int b) else none) (upTo nb) (rngD_ints _) trivial (fun b hb P1 P2 h1 h2 => ?_) ?_ ?_
    · walk_at "run"
      refine ⟨by omega, ?_⟩
      walk_at "run"
      refine Br.of (decide (b % many = x)) rfl ?_
      split
      · rename_i q; exact ⟨_, rfl, h1 _ (if_pos q)⟩
      · rename_i q; exact h2 (if_neg q)
    · rw [upTo_len]; exact Nat.le_trans (show nb.toNat ≤ 6 by omega) (by decide)
    have eg : ∀ l : List Int, (l.filterMap fun b => if decide (b % many = x) = true then some (D.int b) else none) = (l.filter fun b => decide (b % many = x)).map D.int := by
      intro l
      induction l with
      | nil => rfl
      | cons e l ih =>
        rw [List.filterMap_cons, List.filter_cons]
        by_cases q : decide (e % many = x) = true
        · rw [if_pos q, if_pos q, ih]; rfl
        · rw [if_neg q, if_neg q, ih]
    rw [eg]
    change one1 _ [.vl ((own36 nb many x).map D.int)] _
    walk_at "run"
    intro l1 h1
    walk_at "run"
    intro l2 h2
    obtain ⟨A', a1, a2, a3, bo'⟩ := plan_step bo nx h1 h2
    have gP0 : S8 (A .P) = some (.dic (planD A (offs pre))) := bo.x.at_ .P _ rfl
    have gP1 : su S8 l1 (.lst ((own36 nb many x).map D.int)) (A .P) = some (.dic (planD A (offs pre))) := by rw [su_ne fun q => by rw [q, h1] at gP0; cases gP0]; exact gP0
    have gP2 : su (su S8 l1 (.lst ((own36 nb many x).map D.int))) l2 (.dic []) (A .P) = some (.dic (planD A (offs pre))) := by rw [su_ne fun q => by rw [q, h2] at gP1; cases gP1]; exact gP1
    rw [hAP] at gP0 gP1 gP2 bo' a1
    walk_at "run"
    refine ⟨?_, _, rfl, ?_⟩
    · have : (planD A (offs pre)).length ≤ 6 := by
        unfold planD encI offs
        rw [List.length_map, List.length_map, List.length_map]
        have h := congrArg List.length hpre
        rw [upTo_len, List.length_append] at h
        omega
      exact Nat.lt_of_le_of_lt this (by decide)
    exact hk2 _ _ ⟨A', pre ++ [x], _, _, rfl, by rw [hpre]; simp, a1, bo'⟩
  · obtain ⟨⟨l, rfl⟩, v4, ep4⟩ := hI
    refine Br.tt ?_
    walk_at "run"
    refine c7 _ _ _ _ _ ep4 (by omega) (by omega) fun d v5 _ _ => ?_
    walk_at "run"
    exact hP _ _ ⟨⟨l ++ [d], by rw [List.map_append]; rfl⟩, _, su_same⟩
  · rw [rngD_ints, List.length_map]; simp
end LU

namespace LW
open PySem L2 PySem.Spec PyProof.Rows DL
def topS (i : Nat) : Stmt := PySem.Challenge.pw_oneglance_k36_apart_none_falls.main.body.getD i (.Pass ⟨0, 0, 0, 0⟩)
def d_Attempt_init : DefI := ⟨177, "__init__", "Attempt.__init__", inClass (topS 6) 0, ["self", "glance"], ["self", "glance"], f_Attempt_init, (some 9)⟩
def d_Keeper_init : DefI := ⟨178, "__init__", "Keeper.__init__", inClass (topS 7) 0, ["self", "world", "state"], ["self", "world", "state"], f_Keeper_init, (some 10)⟩
def d_Keeper_open_one : DefI := ⟨179, "open_one", "Keeper.open_one", inClass (topS 7) 1, ["self", "a"], ["self", "a"], f_Keeper_open_one, (some 10)⟩
def d_Keeper_going_one : DefI := ⟨180, "going_one", "Keeper.going_one", inClass (topS 7) 2, ["self", "a", "one"], ["self", "a"], f_Keeper_going_one, (some 10)⟩
def d_Keeper_begin : DefI := ⟨181, "begin", "Keeper.begin", inClass (topS 7) 3, ["self", "a"], ["self", "a"], f_Keeper_begin, (some 10)⟩
def d_Keeper_ends : DefI := ⟨182, "ends", "Keeper.ends", inClass (topS 7) 4, ["self", "a", "word"], ["self", "a", "word"], f_Keeper_ends, (some 10)⟩
def d_Keeper_is_free : DefI := ⟨183, "is_free", "Keeper.is_free", inClass (topS 7) 5, ["self", "a", "box"], ["self", "a", "box"], f_Keeper_is_free, (some 10)⟩
def d_Keeper_is_still : DefI := ⟨184, "is_still", "Keeper.is_still", inClass (topS 7) 6, ["self", "a", "one", "box"], ["self", "a"], f_Keeper_is_still, (some 10)⟩
def d_Keeper_would_fall : DefI := ⟨185, "would_fall", "Keeper.would_fall", inClass (topS 7) 7, ["self", "a", "box"], ["self", "a", "box"], f_Keeper_would_fall, (some 10)⟩
def d_Keeper_look : DefI := ⟨186, "look", "Keeper.look", inClass (topS 7) 8, ["self", "a", "box", "one"], ["self", "a", "box"], f_Keeper_look, (some 10)⟩
def d_Keeper_put : DefI := ⟨187, "put", "Keeper.put", inClass (topS 7) 9, ["self", "a", "box", "number"], ["self", "a", "box", "number"], f_Keeper_put, (some 10)⟩
def d_Keeper_can_take : DefI := ⟨188, "can_take", "Keeper.can_take", inClass (topS 7) 10, ["self", "a", "box"], ["self", "a"], f_Keeper_can_take, (some 10)⟩
def d_Keeper_take : DefI := ⟨189, "take", "Keeper.take", inClass (topS 7) 11, ["self", "a", "one", "box"], ["self", "a"], f_Keeper_take, (some 10)⟩
def d_Keeper_write : DefI := ⟨190, "write", "Keeper.write", inClass (topS 7) 12, ["self", "a", "one", "box"], ["self", "a"], f_Keeper_write, (some 10)⟩
def d_Keeper_now : DefI := ⟨194, "now", "Keeper.now", inClass (topS 7) 16, ["self"], ["self"], f_Keeper_now, (some 10)⟩
def d_law_well : DefI := ⟨146, "_law_well", "_law_well", topS 9, ["script", "k", "number", "stir", "found", "turn"], ["script", "k"], f_law_well, none⟩
def d_law_sip : DefI := ⟨147, "_law_sip", "_law_sip", topS 10, ["well", "many", "digit"], ["well", "many"], f_law_sip, none⟩
def d_law_goes : DefI := ⟨228, "_law_goes", "_law_goes", topS 11, ["well", "world", "state", "keeper", "plan", "a", "phase", "boxes", "puts", "box", "way"], ["well", "world", "state", "keeper", "plan", "a"], f_law_goes, none⟩
def d_law_ends : DefI := ⟨229, "_law_ends", "_law_ends", topS 12, ["keeper", "plan", "a", "phase", "boxes", "puts", "told", "box"], ["keeper", "plan", "a"], f_law_ends, none⟩
def d_law_35 : DefI := ⟨230, "law", "law", topS 13, ["script", "k", "well", "n", "world", "state", "box", "many", "keeper", "plan", "a", "whole", "turn", "going", "due", "puts"], ["script"], f_law_35, none⟩
def c_Attempt : ClsI := ⟨9, "Attempt", ["glance", "looked", "puts", "left", "stamp", "is_open"], 177⟩
def c_Keeper : ClsI := ⟨10, "Keeper", ["world", "boxes", "marks", "holders", "time", "attempts", "events"], 178⟩
def inf : Inf := ⟨[d_Attempt_init, d_Keeper_init, d_Keeper_open_one, d_Keeper_going_one, d_Keeper_begin, d_Keeper_ends, d_Keeper_is_free, d_Keeper_is_still, d_Keeper_would_fall, d_Keeper_look, d_Keeper_put, d_Keeper_can_take, d_Keeper_take, d_Keeper_write, d_Keeper_now, d_law_well, d_law_sip, d_law_goes, d_law_ends, d_law_35], [c_Attempt, c_Keeper], []⟩
theorem k_Attempt_init : chkD inf d_Attempt_init = true := by decide +kernel
theorem k_Keeper_init : chkD inf d_Keeper_init = true := by decide +kernel
theorem k_Keeper_open_one : chkD inf d_Keeper_open_one = true := by decide +kernel
theorem k_Keeper_going_one : chkD inf d_Keeper_going_one = true := by decide +kernel
theorem k_Keeper_begin : chkD inf d_Keeper_begin = true := by decide +kernel
theorem k_Keeper_ends : chkD inf d_Keeper_ends = true := by decide +kernel
theorem k_Keeper_is_free : chkD inf d_Keeper_is_free = true := by decide +kernel
theorem k_Keeper_is_still : chkD inf d_Keeper_is_still = true := by decide +kernel
theorem k_Keeper_would_fall : chkD inf d_Keeper_would_fall = true := by decide +kernel
theorem k_Keeper_look : chkD inf d_Keeper_look = true := by decide +kernel
theorem k_Keeper_put : chkD inf d_Keeper_put = true := by decide +kernel
theorem k_Keeper_can_take : chkD inf d_Keeper_can_take = true := by decide +kernel
theorem k_Keeper_take : chkD inf d_Keeper_take = true := by decide +kernel
theorem k_Keeper_write : chkD inf d_Keeper_write = true := by decide +kernel
theorem k_Keeper_now : chkD inf d_Keeper_now = true := by decide +kernel
theorem k_law_well : chkD inf d_law_well = true := by decide +kernel
theorem k_law_sip : chkD inf d_law_sip = true := by decide +kernel
theorem k_law_goes : chkD inf d_law_goes = true := by decide +kernel
theorem k_law_ends : chkD inf d_law_ends = true := by decide +kernel
theorem k_law_35 : chkD inf d_law_35 = true := by decide +kernel
theorem inf_chk : inf.Chk := chk_of (by
  show [d_Attempt_init, d_Keeper_init, d_Keeper_open_one, d_Keeper_going_one, d_Keeper_begin, d_Keeper_ends, d_Keeper_is_free, d_Keeper_is_still, d_Keeper_would_fall, d_Keeper_look, d_Keeper_put, d_Keeper_can_take, d_Keeper_take, d_Keeper_write, d_Keeper_now, d_law_well, d_law_sip, d_law_goes, d_law_ends, d_law_35].all (chkD inf) = true
  simp only [List.all_cons, List.all_nil, Bool.and_self, k_Attempt_init, k_Keeper_init, k_Keeper_open_one, k_Keeper_going_one, k_Keeper_begin, k_Keeper_ends, k_Keeper_is_free, k_Keeper_is_still, k_Keeper_would_fall, k_Keeper_look, k_Keeper_put, k_Keeper_can_take, k_Keeper_take, k_Keeper_write, k_Keeper_now, k_law_well, k_law_sip, k_law_goes, k_law_ends, k_law_35]) (by decide +kernel)
theorem law2 : Holds2 inf 230 := fun ns _ _ => LU.law_ok36 ⟨⟨rfl, rfl, rfl, rfl, rfl, rfl, rfl, rfl, rfl, rfl, rfl, rfl, rfl, rfl, rfl, rfl, rfl, rfl, rfl, rfl, rfl, rfl, rfl⟩, ⟨rfl, rfl, rfl, rfl, rfl, rfl, rfl, rfl, rfl⟩, rfl, rfl, rfl, rfl⟩ _ rfl 93
theorem facts {l : PySem.W.OpenLaw} {w : World} {K : PySem.W.Frag} {h : Heap} {mg : Str → Option Value} {fa : Addr} (KX : K.In h) (G : h.Ns mainGlobals mg) (hfa : mg "law" = some (.ref fa))
    {CAttempt : Addr} {CKeeper : Addr} {fAttempt_init : Addr} {odAttempt_init anAttempt_init : Option Addr} {slAttempt_init : Array (Option Value)} {ocAttempt_init kVAttempt_init dcAttempt_init pmAttempt_init cdAttempt_init ctAttempt_init : Value} {fKeeper_init : Addr} {odKeeper_init anKeeper_init : Option Addr} {slKeeper_init : Array (Option Value)} {ocKeeper_init kVKeeper_init dcKeeper_init pmKeeper_init cdKeeper_init ctKeeper_init : Value} {fKeeper_open_one : Addr} {odKeeper_open_one anKeeper_open_one : Option Addr} {slKeeper_open_one : Array (Option Value)} {ocKeeper_open_one kVKeeper_open_one dcKeeper_open_one pmKeeper_open_one cdKeeper_open_one ctKeeper_open_one : Value} {fKeeper_going_one : Addr} {odKeeper_going_one anKeeper_going_one : Option Addr} {slKeeper_going_one : Array (Option Value)} {ocKeeper_going_one kVKeeper_going_one dcKeeper_going_one pmKeeper_going_one cdKeeper_going_one ctKeeper_going_one : Value} {fKeeper_begin : Addr} {odKeeper_begin anKeeper_begin : Option Addr} {slKeeper_begin : Array (Option Value)} {ocKeeper_begin kVKeeper_begin dcKeeper_begin pmKeeper_begin cdKeeper_begin ctKeeper_begin : Value} {fKeeper_ends : Addr} {odKeeper_ends anKeeper_ends : Option Addr} {slKeeper_ends : Array (Option Value)} {ocKeeper_ends kVKeeper_ends dcKeeper_ends pmKeeper_ends cdKeeper_ends ctKeeper_ends : Value} {fKeeper_is_free : Addr} {odKeeper_is_free anKeeper_is_free : Option Addr} {slKeeper_is_free : Array (Option Value)} {ocKeeper_is_free kVKeeper_is_free dcKeeper_is_free pmKeeper_is_free cdKeeper_is_free ctKeeper_is_free : Value} {fKeeper_is_still : Addr} {odKeeper_is_still anKeeper_is_still : Option Addr} {slKeeper_is_still : Array (Option Value)} {ocKeeper_is_still kVKeeper_is_still dcKeeper_is_still pmKeeper_is_still cdKeeper_is_still ctKeeper_is_still : Value} {fKeeper_would_fall : Addr} {odKeeper_would_fall anKeeper_would_fall : Option Addr} {slKeeper_would_fall : Array (Option Value)} {ocKeeper_would_fall kVKeeper_would_fall dcKeeper_would_fall pmKeeper_would_fall cdKeeper_would_fall ctKeeper_would_fall : Value} {fKeeper_look : Addr} {odKeeper_look anKeeper_look : Option Addr} {slKeeper_look : Array (Option Value)} {ocKeeper_look kVKeeper_look dcKeeper_look pmKeeper_look cdKeeper_look ctKeeper_look : Value} {fKeeper_put : Addr} {odKeeper_put anKeeper_put : Option Addr} {slKeeper_put : Array (Option Value)} {ocKeeper_put kVKeeper_put dcKeeper_put pmKeeper_put cdKeeper_put ctKeeper_put : Value} {fKeeper_can_take : Addr} {odKeeper_can_take anKeeper_can_take : Option Addr} {slKeeper_can_take : Array (Option Value)} {ocKeeper_can_take kVKeeper_can_take dcKeeper_can_take pmKeeper_can_take cdKeeper_can_take ctKeeper_can_take : Value} {fKeeper_take : Addr} {odKeeper_take anKeeper_take : Option Addr} {slKeeper_take : Array (Option Value)} {ocKeeper_take kVKeeper_take dcKeeper_take pmKeeper_take cdKeeper_take ctKeeper_take : Value} {fKeeper_write : Addr} {odKeeper_write anKeeper_write : Option Addr} {slKeeper_write : Array (Option Value)} {ocKeeper_write kVKeeper_write dcKeeper_write pmKeeper_write cdKeeper_write ctKeeper_write : Value} {fKeeper_now : Addr} {odKeeper_now anKeeper_now : Option Addr} {slKeeper_now : Array (Option Value)} {ocKeeper_now kVKeeper_now dcKeeper_now pmKeeper_now cdKeeper_now ctKeeper_now : Value} {flaw_well : Addr} {odlaw_well anlaw_well : Option Addr} {sllaw_well : Array (Option Value)} {oclaw_well kVlaw_well dclaw_well pmlaw_well cdlaw_well ctlaw_well : Value} {flaw_sip : Addr} {odlaw_sip anlaw_sip : Option Addr} {sllaw_sip : Array (Option Value)} {oclaw_sip kVlaw_sip dclaw_sip pmlaw_sip cdlaw_sip ctlaw_sip : Value} {flaw_goes : Addr} {odlaw_goes anlaw_goes : Option Addr} {sllaw_goes : Array (Option Value)} {oclaw_goes kVlaw_goes dclaw_goes pmlaw_goes cdlaw_goes ctlaw_goes : Value} {flaw_ends : Addr} {odlaw_ends anlaw_ends : Option Addr} {sllaw_ends : Array (Option Value)} {oclaw_ends kVlaw_ends dclaw_ends pmlaw_ends cdlaw_ends ctlaw_ends : Value} {flaw_35 : Addr} {odlaw_35 anlaw_35 : Option Addr} {sllaw_35 : Array (Option Value)} {oclaw_35 kVlaw_35 dclaw_35 pmlaw_35 cdlaw_35 ctlaw_35 : Value}
    (aCAttempt : PySem.W.nsIn K mainGlobals "Attempt" = some (some (.ref CAttempt)))
    (pgAttempt : PySem.W.plainGet K CAttempt Str.empty = true)
    (hdAttempt : PySem.W.hasDictIn K CAttempt = true)
    (poAttempt : PySem.W.plainOver K CAttempt = true)
    (saAttempt : PySem.W.findIn K (.ref CAttempt) "__setattr__" = some (some (.builtin "object.__setattr__")))
    (mkAttempt : PySem.W.makesIn K CAttempt = true)
    (kcAttempt : PySem.W.keepIn K (.ref CAttempt) = true)
    (nAttempt_glance : PySem.W.findIn K (.ref CAttempt) "glance" = some none)
    (nAttempt_looked : PySem.W.findIn K (.ref CAttempt) "looked" = some none)
    (nAttempt_puts : PySem.W.findIn K (.ref CAttempt) "puts" = some none)
    (nAttempt_left : PySem.W.findIn K (.ref CAttempt) "left" = some none)
    (nAttempt_stamp : PySem.W.findIn K (.ref CAttempt) "stamp" = some none)
    (nAttempt_is_open : PySem.W.findIn K (.ref CAttempt) "is_open" = some none)
    (aCKeeper : PySem.W.nsIn K mainGlobals "Keeper" = some (some (.ref CKeeper)))
    (pgKeeper : PySem.W.plainGet K CKeeper Str.empty = true)
    (hdKeeper : PySem.W.hasDictIn K CKeeper = true)
    (poKeeper : PySem.W.plainOver K CKeeper = true)
    (saKeeper : PySem.W.findIn K (.ref CKeeper) "__setattr__" = some (some (.builtin "object.__setattr__")))
    (mkKeeper : PySem.W.makesIn K CKeeper = true)
    (kcKeeper : PySem.W.keepIn K (.ref CKeeper) = true)
    (nKeeper_world : PySem.W.findIn K (.ref CKeeper) "world" = some none)
    (nKeeper_boxes : PySem.W.findIn K (.ref CKeeper) "boxes" = some none)
    (nKeeper_marks : PySem.W.findIn K (.ref CKeeper) "marks" = some none)
    (nKeeper_holders : PySem.W.findIn K (.ref CKeeper) "holders" = some none)
    (nKeeper_time : PySem.W.findIn K (.ref CKeeper) "time" = some none)
    (nKeeper_attempts : PySem.W.findIn K (.ref CKeeper) "attempts" = some none)
    (nKeeper_events : PySem.W.findIn K (.ref CKeeper) "events" = some none)
    (aAttempt_init : PySem.W.findIn K (.ref CAttempt) "__init__" = some (some (.ref fAttempt_init)))
    (iAttempt_init : PySem.W.isFn K (.ref fAttempt_init) = true)
    (lAttempt_init : K.lookup fAttempt_init = some ⟨ocAttempt_init, odAttempt_init, .func (PySem.W.fnOf "__init__" "Attempt.__init__" (defArgs d_Attempt_init.st) (defBody d_Attempt_init.st) (defScope d_Attempt_init.st) .none kVAttempt_init dcAttempt_init pmAttempt_init anAttempt_init cdAttempt_init ctAttempt_init), slAttempt_init⟩)
    (cAttempt_init : PySem.W.codeIn K cdAttempt_init "Attempt.__init__" = true)
    (kAttempt_init : PySem.W.keepIn K (.ref fAttempt_init) = true)
    (aKeeper_init : PySem.W.findIn K (.ref CKeeper) "__init__" = some (some (.ref fKeeper_init)))
    (iKeeper_init : PySem.W.isFn K (.ref fKeeper_init) = true)
    (lKeeper_init : K.lookup fKeeper_init = some ⟨ocKeeper_init, odKeeper_init, .func (PySem.W.fnOf "__init__" "Keeper.__init__" (defArgs d_Keeper_init.st) (defBody d_Keeper_init.st) (defScope d_Keeper_init.st) .none kVKeeper_init dcKeeper_init pmKeeper_init anKeeper_init cdKeeper_init ctKeeper_init), slKeeper_init⟩)
    (cKeeper_init : PySem.W.codeIn K cdKeeper_init "Keeper.__init__" = true)
    (kKeeper_init : PySem.W.keepIn K (.ref fKeeper_init) = true)
    (aKeeper_open_one : PySem.W.findIn K (.ref CKeeper) "open_one" = some (some (.ref fKeeper_open_one)))
    (iKeeper_open_one : PySem.W.isFn K (.ref fKeeper_open_one) = true)
    (lKeeper_open_one : K.lookup fKeeper_open_one = some ⟨ocKeeper_open_one, odKeeper_open_one, .func (PySem.W.fnOf "open_one" "Keeper.open_one" (defArgs d_Keeper_open_one.st) (defBody d_Keeper_open_one.st) (defScope d_Keeper_open_one.st) .none kVKeeper_open_one dcKeeper_open_one pmKeeper_open_one anKeeper_open_one cdKeeper_open_one ctKeeper_open_one), slKeeper_open_one⟩)
    (cKeeper_open_one : PySem.W.codeIn K cdKeeper_open_one "Keeper.open_one" = true)
    (kKeeper_open_one : PySem.W.keepIn K (.ref fKeeper_open_one) = true)
    (aKeeper_going_one : PySem.W.findIn K (.ref CKeeper) "going_one" = some (some (.ref fKeeper_going_one)))
    (iKeeper_going_one : PySem.W.isFn K (.ref fKeeper_going_one) = true)
    (lKeeper_going_one : K.lookup fKeeper_going_one = some ⟨ocKeeper_going_one, odKeeper_going_one, .func (PySem.W.fnOf "going_one" "Keeper.going_one" (defArgs d_Keeper_going_one.st) (defBody d_Keeper_going_one.st) (defScope d_Keeper_going_one.st) .none kVKeeper_going_one dcKeeper_going_one pmKeeper_going_one anKeeper_going_one cdKeeper_going_one ctKeeper_going_one), slKeeper_going_one⟩)
    (cKeeper_going_one : PySem.W.codeIn K cdKeeper_going_one "Keeper.going_one" = true)
    (kKeeper_going_one : PySem.W.keepIn K (.ref fKeeper_going_one) = true)
    (aKeeper_begin : PySem.W.findIn K (.ref CKeeper) "begin" = some (some (.ref fKeeper_begin)))
    (iKeeper_begin : PySem.W.isFn K (.ref fKeeper_begin) = true)
    (lKeeper_begin : K.lookup fKeeper_begin = some ⟨ocKeeper_begin, odKeeper_begin, .func (PySem.W.fnOf "begin" "Keeper.begin" (defArgs d_Keeper_begin.st) (defBody d_Keeper_begin.st) (defScope d_Keeper_begin.st) .none kVKeeper_begin dcKeeper_begin pmKeeper_begin anKeeper_begin cdKeeper_begin ctKeeper_begin), slKeeper_begin⟩)
    (cKeeper_begin : PySem.W.codeIn K cdKeeper_begin "Keeper.begin" = true)
    (kKeeper_begin : PySem.W.keepIn K (.ref fKeeper_begin) = true)
    (aKeeper_ends : PySem.W.findIn K (.ref CKeeper) "ends" = some (some (.ref fKeeper_ends)))
    (iKeeper_ends : PySem.W.isFn K (.ref fKeeper_ends) = true)
    (lKeeper_ends : K.lookup fKeeper_ends = some ⟨ocKeeper_ends, odKeeper_ends, .func (PySem.W.fnOf "ends" "Keeper.ends" (defArgs d_Keeper_ends.st) (defBody d_Keeper_ends.st) (defScope d_Keeper_ends.st) .none kVKeeper_ends dcKeeper_ends pmKeeper_ends anKeeper_ends cdKeeper_ends ctKeeper_ends), slKeeper_ends⟩)
    (cKeeper_ends : PySem.W.codeIn K cdKeeper_ends "Keeper.ends" = true)
    (kKeeper_ends : PySem.W.keepIn K (.ref fKeeper_ends) = true)
    (aKeeper_is_free : PySem.W.findIn K (.ref CKeeper) "is_free" = some (some (.ref fKeeper_is_free)))
    (iKeeper_is_free : PySem.W.isFn K (.ref fKeeper_is_free) = true)
    (lKeeper_is_free : K.lookup fKeeper_is_free = some ⟨ocKeeper_is_free, odKeeper_is_free, .func (PySem.W.fnOf "is_free" "Keeper.is_free" (defArgs d_Keeper_is_free.st) (defBody d_Keeper_is_free.st) (defScope d_Keeper_is_free.st) .none kVKeeper_is_free dcKeeper_is_free pmKeeper_is_free anKeeper_is_free cdKeeper_is_free ctKeeper_is_free), slKeeper_is_free⟩)
    (cKeeper_is_free : PySem.W.codeIn K cdKeeper_is_free "Keeper.is_free" = true)
    (kKeeper_is_free : PySem.W.keepIn K (.ref fKeeper_is_free) = true)
    (aKeeper_is_still : PySem.W.findIn K (.ref CKeeper) "is_still" = some (some (.ref fKeeper_is_still)))
    (iKeeper_is_still : PySem.W.isFn K (.ref fKeeper_is_still) = true)
    (lKeeper_is_still : K.lookup fKeeper_is_still = some ⟨ocKeeper_is_still, odKeeper_is_still, .func (PySem.W.fnOf "is_still" "Keeper.is_still" (defArgs d_Keeper_is_still.st) (defBody d_Keeper_is_still.st) (defScope d_Keeper_is_still.st) .none kVKeeper_is_still dcKeeper_is_still pmKeeper_is_still anKeeper_is_still cdKeeper_is_still ctKeeper_is_still), slKeeper_is_still⟩)
    (cKeeper_is_still : PySem.W.codeIn K cdKeeper_is_still "Keeper.is_still" = true)
    (kKeeper_is_still : PySem.W.keepIn K (.ref fKeeper_is_still) = true)
    (aKeeper_would_fall : PySem.W.findIn K (.ref CKeeper) "would_fall" = some (some (.ref fKeeper_would_fall)))
    (iKeeper_would_fall : PySem.W.isFn K (.ref fKeeper_would_fall) = true)
    (lKeeper_would_fall : K.lookup fKeeper_would_fall = some ⟨ocKeeper_would_fall, odKeeper_would_fall, .func (PySem.W.fnOf "would_fall" "Keeper.would_fall" (defArgs d_Keeper_would_fall.st) (defBody d_Keeper_would_fall.st) (defScope d_Keeper_would_fall.st) .none kVKeeper_would_fall dcKeeper_would_fall pmKeeper_would_fall anKeeper_would_fall cdKeeper_would_fall ctKeeper_would_fall), slKeeper_would_fall⟩)
    (cKeeper_would_fall : PySem.W.codeIn K cdKeeper_would_fall "Keeper.would_fall" = true)
    (kKeeper_would_fall : PySem.W.keepIn K (.ref fKeeper_would_fall) = true)
    (aKeeper_look : PySem.W.findIn K (.ref CKeeper) "look" = some (some (.ref fKeeper_look)))
    (iKeeper_look : PySem.W.isFn K (.ref fKeeper_look) = true)
    (lKeeper_look : K.lookup fKeeper_look = some ⟨ocKeeper_look, odKeeper_look, .func (PySem.W.fnOf "look" "Keeper.look" (defArgs d_Keeper_look.st) (defBody d_Keeper_look.st) (defScope d_Keeper_look.st) .none kVKeeper_look dcKeeper_look pmKeeper_look anKeeper_look cdKeeper_look ctKeeper_look), slKeeper_look⟩)
    (cKeeper_look : PySem.W.codeIn K cdKeeper_look "Keeper.look" = true)
    (kKeeper_look : PySem.W.keepIn K (.ref fKeeper_look) = true)
    (aKeeper_put : PySem.W.findIn K (.ref CKeeper) "put" = some (some (.ref fKeeper_put)))
    (iKeeper_put : PySem.W.isFn K (.ref fKeeper_put) = true)
    (lKeeper_put : K.lookup fKeeper_put = some ⟨ocKeeper_put, odKeeper_put, .func (PySem.W.fnOf "put" "Keeper.put" (defArgs d_Keeper_put.st) (defBody d_Keeper_put.st) (defScope d_Keeper_put.st) .none kVKeeper_put dcKeeper_put pmKeeper_put anKeeper_put cdKeeper_put ctKeeper_put), slKeeper_put⟩)
    (cKeeper_put : PySem.W.codeIn K cdKeeper_put "Keeper.put" = true)
    (kKeeper_put : PySem.W.keepIn K (.ref fKeeper_put) = true)
    (aKeeper_can_take : PySem.W.findIn K (.ref CKeeper) "can_take" = some (some (.ref fKeeper_can_take)))
    (iKeeper_can_take : PySem.W.isFn K (.ref fKeeper_can_take) = true)
    (lKeeper_can_take : K.lookup fKeeper_can_take = some ⟨ocKeeper_can_take, odKeeper_can_take, .func (PySem.W.fnOf "can_take" "Keeper.can_take" (defArgs d_Keeper_can_take.st) (defBody d_Keeper_can_take.st) (defScope d_Keeper_can_take.st) .none kVKeeper_can_take dcKeeper_can_take pmKeeper_can_take anKeeper_can_take cdKeeper_can_take ctKeeper_can_take), slKeeper_can_take⟩)
    (cKeeper_can_take : PySem.W.codeIn K cdKeeper_can_take "Keeper.can_take" = true)
    (kKeeper_can_take : PySem.W.keepIn K (.ref fKeeper_can_take) = true)
    (aKeeper_take : PySem.W.findIn K (.ref CKeeper) "take" = some (some (.ref fKeeper_take)))
    (iKeeper_take : PySem.W.isFn K (.ref fKeeper_take) = true)
    (lKeeper_take : K.lookup fKeeper_take = some ⟨ocKeeper_take, odKeeper_take, .func (PySem.W.fnOf "take" "Keeper.take" (defArgs d_Keeper_take.st) (defBody d_Keeper_take.st) (defScope d_Keeper_take.st) .none kVKeeper_take dcKeeper_take pmKeeper_take anKeeper_take cdKeeper_take ctKeeper_take), slKeeper_take⟩)
    (cKeeper_take : PySem.W.codeIn K cdKeeper_take "Keeper.take" = true)
    (kKeeper_take : PySem.W.keepIn K (.ref fKeeper_take) = true)
    (aKeeper_write : PySem.W.findIn K (.ref CKeeper) "write" = some (some (.ref fKeeper_write)))
    (iKeeper_write : PySem.W.isFn K (.ref fKeeper_write) = true)
    (lKeeper_write : K.lookup fKeeper_write = some ⟨ocKeeper_write, odKeeper_write, .func (PySem.W.fnOf "write" "Keeper.write" (defArgs d_Keeper_write.st) (defBody d_Keeper_write.st) (defScope d_Keeper_write.st) .none kVKeeper_write dcKeeper_write pmKeeper_write anKeeper_write cdKeeper_write ctKeeper_write), slKeeper_write⟩)
    (cKeeper_write : PySem.W.codeIn K cdKeeper_write "Keeper.write" = true)
    (kKeeper_write : PySem.W.keepIn K (.ref fKeeper_write) = true)
    (aKeeper_now : PySem.W.findIn K (.ref CKeeper) "now" = some (some (.ref fKeeper_now)))
    (iKeeper_now : PySem.W.isFn K (.ref fKeeper_now) = true)
    (lKeeper_now : K.lookup fKeeper_now = some ⟨ocKeeper_now, odKeeper_now, .func (PySem.W.fnOf "now" "Keeper.now" (defArgs d_Keeper_now.st) (defBody d_Keeper_now.st) (defScope d_Keeper_now.st) .none kVKeeper_now dcKeeper_now pmKeeper_now anKeeper_now cdKeeper_now ctKeeper_now), slKeeper_now⟩)
    (cKeeper_now : PySem.W.codeIn K cdKeeper_now "Keeper.now" = true)
    (kKeeper_now : PySem.W.keepIn K (.ref fKeeper_now) = true)
    (alaw_well : PySem.W.nsIn K mainGlobals "_law_well" = some (some (.ref flaw_well)))
    (llaw_well : K.lookup flaw_well = some ⟨oclaw_well, odlaw_well, .func (PySem.W.fnOf "_law_well" "_law_well" (defArgs d_law_well.st) (defBody d_law_well.st) (defScope d_law_well.st) .none kVlaw_well dclaw_well pmlaw_well anlaw_well cdlaw_well ctlaw_well), sllaw_well⟩)
    (claw_well : PySem.W.codeIn K cdlaw_well "_law_well" = true)
    (klaw_well : PySem.W.keepIn K (.ref flaw_well) = true)
    (alaw_sip : PySem.W.nsIn K mainGlobals "_law_sip" = some (some (.ref flaw_sip)))
    (llaw_sip : K.lookup flaw_sip = some ⟨oclaw_sip, odlaw_sip, .func (PySem.W.fnOf "_law_sip" "_law_sip" (defArgs d_law_sip.st) (defBody d_law_sip.st) (defScope d_law_sip.st) .none kVlaw_sip dclaw_sip pmlaw_sip anlaw_sip cdlaw_sip ctlaw_sip), sllaw_sip⟩)
    (claw_sip : PySem.W.codeIn K cdlaw_sip "_law_sip" = true)
    (klaw_sip : PySem.W.keepIn K (.ref flaw_sip) = true)
    (alaw_goes : PySem.W.nsIn K mainGlobals "_law_goes" = some (some (.ref flaw_goes)))
    (llaw_goes : K.lookup flaw_goes = some ⟨oclaw_goes, odlaw_goes, .func (PySem.W.fnOf "_law_goes" "_law_goes" (defArgs d_law_goes.st) (defBody d_law_goes.st) (defScope d_law_goes.st) .none kVlaw_goes dclaw_goes pmlaw_goes anlaw_goes cdlaw_goes ctlaw_goes), sllaw_goes⟩)
    (claw_goes : PySem.W.codeIn K cdlaw_goes "_law_goes" = true)
    (klaw_goes : PySem.W.keepIn K (.ref flaw_goes) = true)
    (alaw_ends : PySem.W.nsIn K mainGlobals "_law_ends" = some (some (.ref flaw_ends)))
    (llaw_ends : K.lookup flaw_ends = some ⟨oclaw_ends, odlaw_ends, .func (PySem.W.fnOf "_law_ends" "_law_ends" (defArgs d_law_ends.st) (defBody d_law_ends.st) (defScope d_law_ends.st) .none kVlaw_ends dclaw_ends pmlaw_ends anlaw_ends cdlaw_ends ctlaw_ends), sllaw_ends⟩)
    (claw_ends : PySem.W.codeIn K cdlaw_ends "_law_ends" = true)
    (klaw_ends : PySem.W.keepIn K (.ref flaw_ends) = true)
    (alaw_35 : PySem.W.nsIn K mainGlobals "law" = some (some (.ref flaw_35)))
    (llaw_35 : K.lookup flaw_35 = some ⟨oclaw_35, odlaw_35, .func (PySem.W.fnOf "law" "law" (defArgs d_law_35.st) (defBody d_law_35.st) (defScope d_law_35.st) .none kVlaw_35 dclaw_35 pmlaw_35 anlaw_35 cdlaw_35 ctlaw_35), sllaw_35⟩)
    (claw_35 : PySem.W.codeIn K cdlaw_35 "law" = true)
    (klaw_35 : PySem.W.keepIn K (.ref flaw_35) = true)
    (b_len : PySem.W.nsIn K mainGlobals "len" = some none)
    (b_int : PySem.W.nsIn K mainGlobals "int" = some none)
    (b_str : PySem.W.nsIn K mainGlobals "str" = some none)
    (b_list : PySem.W.nsIn K mainGlobals "list" = some none)
    (b_tuple : PySem.W.nsIn K mainGlobals "tuple" = some none)
    (b_sorted : PySem.W.nsIn K mainGlobals "sorted" = some none)
    (b_all : PySem.W.nsIn K mainGlobals "all" = some none)
    (b_any : PySem.W.nsIn K mainGlobals "any" = some none)
    (b_min : PySem.W.nsIn K mainGlobals "min" = some none)
    (b_max : PySem.W.nsIn K mainGlobals "max" = some none)
    (b_range : PySem.W.nsIn K mainGlobals "range" = some none)
    (b_enumerate : PySem.W.nsIn K mainGlobals "enumerate" = some none)
    (b_zip : PySem.W.nsIn K mainGlobals "zip" = some none)
    (b_isinstance : PySem.W.nsIn K mainGlobals "isinstance" = some none)
    (b_bool : PySem.W.nsIn K mainGlobals "bool" = some none)
    (b_dict : PySem.W.nsIn K mainGlobals "dict" = some none)
    (b_sum : PySem.W.nsIn K mainGlobals "sum" = some none)
    (b_set : PySem.W.nsIn K mainGlobals "set" = some none)
    (h2 : Holds2 inf 230) :
    ∃ fd : FuncData, (∀ (s : Shared) (v : Value), BindsTo s fd ⟨[v], []⟩ [("script", v)]) ∧ ∀ base : Heap, K.In base → base.Ns mainGlobals mg → FnOk l.prog w K mg base CX0 200 fa fd ["script"] (spLaw K) := by
  have e := hfa.symm.trans (PySem.W.mg_of KX G alaw_35)
  cases e
  let adr : Nat → Addr := fun i => if i = 9 then CAttempt else if i = 10 then CKeeper else 0
  have clsAttempt : Cls K CAttempt := ⟨pgAttempt, hdAttempt, poAttempt, saAttempt⟩
  have clsKeeper : Cls K CKeeper := ⟨pgKeeper, hdKeeper, poKeeper, saKeeper⟩
  have uAttempt_init := at_meth (L := inf) (mg := mg) (adr := adr) (d := d_Attempt_init) (ci := 9) rfl clsAttempt (by decide +kernel) aAttempt_init iAttempt_init lAttempt_init cAttempt_init kAttempt_init (fun _ _ _ _ _ _ us hl => match us, hl with | [_, _], _ => rfl)
  have uKeeper_init := at_meth (L := inf) (mg := mg) (adr := adr) (d := d_Keeper_init) (ci := 10) rfl clsKeeper (by decide +kernel) aKeeper_init iKeeper_init lKeeper_init cKeeper_init kKeeper_init (fun _ _ _ _ _ _ us hl => match us, hl with | [_, _, _], _ => rfl)
  have uKeeper_open_one := at_meth (L := inf) (mg := mg) (adr := adr) (d := d_Keeper_open_one) (ci := 10) rfl clsKeeper (by decide +kernel) aKeeper_open_one iKeeper_open_one lKeeper_open_one cKeeper_open_one kKeeper_open_one (fun _ _ _ _ _ _ us hl => match us, hl with | [_, _], _ => rfl)
  have uKeeper_going_one := at_meth (L := inf) (mg := mg) (adr := adr) (d := d_Keeper_going_one) (ci := 10) rfl clsKeeper (by decide +kernel) aKeeper_going_one iKeeper_going_one lKeeper_going_one cKeeper_going_one kKeeper_going_one (fun _ _ _ _ _ _ us hl => match us, hl with | [_, _], _ => rfl)
  have uKeeper_begin := at_meth (L := inf) (mg := mg) (adr := adr) (d := d_Keeper_begin) (ci := 10) rfl clsKeeper (by decide +kernel) aKeeper_begin iKeeper_begin lKeeper_begin cKeeper_begin kKeeper_begin (fun _ _ _ _ _ _ us hl => match us, hl with | [_, _], _ => rfl)
  have uKeeper_ends := at_meth (L := inf) (mg := mg) (adr := adr) (d := d_Keeper_ends) (ci := 10) rfl clsKeeper (by decide +kernel) aKeeper_ends iKeeper_ends lKeeper_ends cKeeper_ends kKeeper_ends (fun _ _ _ _ _ _ us hl => match us, hl with | [_, _, _], _ => rfl)
  have uKeeper_is_free := at_meth (L := inf) (mg := mg) (adr := adr) (d := d_Keeper_is_free) (ci := 10) rfl clsKeeper (by decide +kernel) aKeeper_is_free iKeeper_is_free lKeeper_is_free cKeeper_is_free kKeeper_is_free (fun _ _ _ _ _ _ us hl => match us, hl with | [_, _, _], _ => rfl)
  have uKeeper_is_still := at_meth (L := inf) (mg := mg) (adr := adr) (d := d_Keeper_is_still) (ci := 10) rfl clsKeeper (by decide +kernel) aKeeper_is_still iKeeper_is_still lKeeper_is_still cKeeper_is_still kKeeper_is_still (fun _ _ _ _ _ _ us hl => match us, hl with | [_, _], _ => rfl)
  have uKeeper_would_fall := at_meth (L := inf) (mg := mg) (adr := adr) (d := d_Keeper_would_fall) (ci := 10) rfl clsKeeper (by decide +kernel) aKeeper_would_fall iKeeper_would_fall lKeeper_would_fall cKeeper_would_fall kKeeper_would_fall (fun _ _ _ _ _ _ us hl => match us, hl with | [_, _, _], _ => rfl)
  have uKeeper_look := at_meth (L := inf) (mg := mg) (adr := adr) (d := d_Keeper_look) (ci := 10) rfl clsKeeper (by decide +kernel) aKeeper_look iKeeper_look lKeeper_look cKeeper_look kKeeper_look (fun _ _ _ _ _ _ us hl => match us, hl with | [_, _, _], _ => rfl)
  have uKeeper_put := at_meth (L := inf) (mg := mg) (adr := adr) (d := d_Keeper_put) (ci := 10) rfl clsKeeper (by decide +kernel) aKeeper_put iKeeper_put lKeeper_put cKeeper_put kKeeper_put (fun _ _ _ _ _ _ us hl => match us, hl with | [_, _, _, _], _ => rfl)
  have uKeeper_can_take := at_meth (L := inf) (mg := mg) (adr := adr) (d := d_Keeper_can_take) (ci := 10) rfl clsKeeper (by decide +kernel) aKeeper_can_take iKeeper_can_take lKeeper_can_take cKeeper_can_take kKeeper_can_take (fun _ _ _ _ _ _ us hl => match us, hl with | [_, _], _ => rfl)
  have uKeeper_take := at_meth (L := inf) (mg := mg) (adr := adr) (d := d_Keeper_take) (ci := 10) rfl clsKeeper (by decide +kernel) aKeeper_take iKeeper_take lKeeper_take cKeeper_take kKeeper_take (fun _ _ _ _ _ _ us hl => match us, hl with | [_, _], _ => rfl)
  have uKeeper_write := at_meth (L := inf) (mg := mg) (adr := adr) (d := d_Keeper_write) (ci := 10) rfl clsKeeper (by decide +kernel) aKeeper_write iKeeper_write lKeeper_write cKeeper_write kKeeper_write (fun _ _ _ _ _ _ us hl => match us, hl with | [_, _], _ => rfl)
  have uKeeper_now := at_meth (L := inf) (mg := mg) (adr := adr) (d := d_Keeper_now) (ci := 10) rfl clsKeeper (by decide +kernel) aKeeper_now iKeeper_now lKeeper_now cKeeper_now kKeeper_now (fun _ _ _ _ _ _ us hl => match us, hl with | [_], _ => rfl)
  have ulaw_well := at_fun (L := inf) (adr := adr) (d := d_law_well) KX G rfl alaw_well llaw_well claw_well klaw_well (fun _ _ _ _ _ _ us hl => match us, hl with | [_, _], _ => rfl)
  have ulaw_sip := at_fun (L := inf) (adr := adr) (d := d_law_sip) KX G rfl alaw_sip llaw_sip claw_sip klaw_sip (fun _ _ _ _ _ _ us hl => match us, hl with | [_, _], _ => rfl)
  have ulaw_goes := at_fun (L := inf) (adr := adr) (d := d_law_goes) KX G rfl alaw_goes llaw_goes claw_goes klaw_goes (fun _ _ _ _ _ _ us hl => match us, hl with | [_, _, _, _, _, _], _ => rfl)
  have ulaw_ends := at_fun (L := inf) (adr := adr) (d := d_law_ends) KX G rfl alaw_ends llaw_ends claw_ends klaw_ends (fun _ _ _ _ _ _ us hl => match us, hl with | [_, _, _], _ => rfl)
  have ulaw_35 := at_fun (L := inf) (adr := adr) (d := d_law_35) KX G rfl alaw_35 llaw_35 claw_35 klaw_35 (fun _ _ _ _ _ _ us hl => match us, hl with | [_], _ => rfl)
  have X : Facts inf K mg adr w := by
    refine ⟨fun d hd => ?_, fun c hc => ?_, fun g hg => ?_, blt_of KX G b_len b_int b_str b_list b_tuple b_sorted b_all b_any b_min b_max b_range b_enumerate b_zip b_isinstance b_bool b_dict b_sum b_set⟩
    · have hd : d ∈ [d_Attempt_init, d_Keeper_init, d_Keeper_open_one, d_Keeper_going_one, d_Keeper_begin, d_Keeper_ends, d_Keeper_is_free, d_Keeper_is_still, d_Keeper_would_fall, d_Keeper_look, d_Keeper_put, d_Keeper_can_take, d_Keeper_take, d_Keeper_write, d_Keeper_now, d_law_well, d_law_sip, d_law_goes, d_law_ends, d_law_35] := hd
      simp only [List.mem_cons, List.not_mem_nil, or_false] at hd
      rcases hd with rfl | rfl | rfl | rfl | rfl | rfl | rfl | rfl | rfl | rfl | rfl | rfl | rfl | rfl | rfl | rfl | rfl | rfl | rfl | rfl
      · exact ⟨_, _, uAttempt_init⟩
      · exact ⟨_, _, uKeeper_init⟩
      · exact ⟨_, _, uKeeper_open_one⟩
      · exact ⟨_, _, uKeeper_going_one⟩
      · exact ⟨_, _, uKeeper_begin⟩
      · exact ⟨_, _, uKeeper_ends⟩
      · exact ⟨_, _, uKeeper_is_free⟩
      · exact ⟨_, _, uKeeper_is_still⟩
      · exact ⟨_, _, uKeeper_would_fall⟩
      · exact ⟨_, _, uKeeper_look⟩
      · exact ⟨_, _, uKeeper_put⟩
      · exact ⟨_, _, uKeeper_can_take⟩
      · exact ⟨_, _, uKeeper_take⟩
      · exact ⟨_, _, uKeeper_write⟩
      · exact ⟨_, _, uKeeper_now⟩
      · exact ⟨_, _, ulaw_well⟩
      · exact ⟨_, _, ulaw_sip⟩
      · exact ⟨_, _, ulaw_goes⟩
      · exact ⟨_, _, ulaw_ends⟩
      · exact ⟨_, _, ulaw_35⟩
    · have hc : c ∈ ([c_Attempt, c_Keeper] : List ClsI) := hc
      simp only [List.mem_cons, List.not_mem_nil, or_false] at hc
      rcases hc with rfl | rfl
      · refine ⟨⟨clsAttempt, (show (["glance", "looked", "puts", "left", "stamp", "is_open"] : List Str).Nodup by decide +kernel), (show (["glance", "looked", "puts", "left", "stamp", "is_open"] : List Str).length ≤ 50 by decide), fun f hf => ?_⟩, mkAttempt, kcAttempt, PySem.W.mg_of KX G aCAttempt⟩
        have hf : f ∈ (["glance", "looked", "puts", "left", "stamp", "is_open"] : List Str) := hf
        simp only [List.mem_cons, List.not_mem_nil, or_false] at hf
        rcases hf with rfl | rfl | rfl | rfl | rfl | rfl
        · exact nAttempt_glance
        · exact nAttempt_looked
        · exact nAttempt_puts
        · exact nAttempt_left
        · exact nAttempt_stamp
        · exact nAttempt_is_open
      · refine ⟨⟨clsKeeper, (show (["world", "boxes", "marks", "holders", "time", "attempts", "events"] : List Str).Nodup by decide +kernel), (show (["world", "boxes", "marks", "holders", "time", "attempts", "events"] : List Str).length ≤ 50 by decide), fun f hf => ?_⟩, mkKeeper, kcKeeper, PySem.W.mg_of KX G aCKeeper⟩
        have hf : f ∈ (["world", "boxes", "marks", "holders", "time", "attempts", "events"] : List Str) := hf
        simp only [List.mem_cons, List.not_mem_nil, or_false] at hf
        rcases hf with rfl | rfl | rfl | rfl | rfl | rfl | rfl
        · exact nKeeper_world
        · exact nKeeper_boxes
        · exact nKeeper_marks
        · exact nKeeper_holders
        · exact nKeeper_time
        · exact nKeeper_attempts
        · exact nKeeper_events
    · have hg : g ∈ ([] : List (Nat × Str × Vx)) := hg
      cases hg
  exact ⟨_, fun s v => .of_eq rfl, fun base _ _ => law_ok inf_chk X (show d_law_35 ∈ [d_Attempt_init, d_Keeper_init, d_Keeper_open_one, d_Keeper_going_one, d_Keeper_begin, d_Keeper_ends, d_Keeper_is_free, d_Keeper_is_still, d_Keeper_would_fall, d_Keeper_look, d_Keeper_put, d_Keeper_can_take, d_Keeper_take, d_Keeper_write, d_Keeper_now, d_law_well, d_law_sip, d_law_goes, d_law_ends, d_law_35] by simp only [List.mem_cons, true_or, or_true]) rfl h2 ulaw_35⟩
end LW
open PySem PySem.W PyProof.Rows in
set_option maxRecDepth 100000 in
set_option maxHeartbeats 0 in
theorem PySem.Challenge.cw_oneglance_k36_apart_none_falls_holds : PySem.Challenge.rw_oneglance_k36_apart_none_falls.Holds := by
  w_on; o_law; k_head; (case hw => w_witness2)
  k_fill
  refine DL.walk (l := PySem.Challenge.rw_oneglance_k36_apart_none_falls) rfl rfl (fun w h Y => PySem.W.kIn_of Y) ?F
  case F =>
    intro w mg fa h KX G hmg
    refine' LW.facts KX G hmg ?aCAttempt ?pgAttempt ?hdAttempt ?poAttempt ?saAttempt ?mkAttempt ?kcAttempt ?nAttempt_glance ?nAttempt_looked ?nAttempt_puts ?nAttempt_left ?nAttempt_stamp ?nAttempt_is_open ?aCKeeper ?pgKeeper ?hdKeeper ?poKeeper ?saKeeper ?mkKeeper ?kcKeeper ?nKeeper_world ?nKeeper_boxes ?nKeeper_marks ?nKeeper_holders ?nKeeper_time ?nKeeper_attempts ?nKeeper_events ?aAttempt_init ?iAttempt_init ?lAttempt_init ?cAttempt_init ?kAttempt_init ?aKeeper_init ?iKeeper_init ?lKeeper_init ?cKeeper_init ?kKeeper_init ?aKeeper_open_one ?iKeeper_open_one ?lKeeper_open_one ?cKeeper_open_one ?kKeeper_open_one ?aKeeper_going_one ?iKeeper_going_one ?lKeeper_going_one ?cKeeper_going_one ?kKeeper_going_one ?aKeeper_begin ?iKeeper_begin ?lKeeper_begin ?cKeeper_begin ?kKeeper_begin ?aKeeper_ends ?iKeeper_ends ?lKeeper_ends ?cKeeper_ends ?kKeeper_ends ?aKeeper_is_free ?iKeeper_is_free ?lKeeper_is_free ?cKeeper_is_free ?kKeeper_is_free ?aKeeper_is_still ?iKeeper_is_still ?lKeeper_is_still ?cKeeper_is_still ?kKeeper_is_still ?aKeeper_would_fall ?iKeeper_would_fall ?lKeeper_would_fall ?cKeeper_would_fall ?kKeeper_would_fall ?aKeeper_look ?iKeeper_look ?lKeeper_look ?cKeeper_look ?kKeeper_look ?aKeeper_put ?iKeeper_put ?lKeeper_put ?cKeeper_put ?kKeeper_put ?aKeeper_can_take ?iKeeper_can_take ?lKeeper_can_take ?cKeeper_can_take ?kKeeper_can_take ?aKeeper_take ?iKeeper_take ?lKeeper_take ?cKeeper_take ?kKeeper_take ?aKeeper_write ?iKeeper_write ?lKeeper_write ?cKeeper_write ?kKeeper_write ?aKeeper_now ?iKeeper_now ?lKeeper_now ?cKeeper_now ?kKeeper_now ?alaw_well ?llaw_well ?claw_well ?klaw_well ?alaw_sip ?llaw_sip ?claw_sip ?klaw_sip ?alaw_goes ?llaw_goes ?claw_goes ?klaw_goes ?alaw_ends ?llaw_ends ?claw_ends ?klaw_ends ?alaw_35 ?llaw_35 ?claw_35 ?klaw_35 ?b_len ?b_int ?b_str ?b_list ?b_tuple ?b_sorted ?b_all ?b_any ?b_min ?b_max ?b_range ?b_enumerate ?b_zip ?b_isinstance ?b_bool ?b_dict ?b_sum ?b_set LW.law2
    (case aCAttempt => k_is)
    (case pgAttempt => k_is)
    (case hdAttempt => k_is)
    (case poAttempt => k_is)
    (case saAttempt => k_is)
    (case mkAttempt => k_is)
    (case kcAttempt => k_is)
    (case nAttempt_glance => k_is)
    (case nAttempt_looked => k_is)
    (case nAttempt_puts => k_is)
    (case nAttempt_left => k_is)
    (case nAttempt_stamp => k_is)
    (case nAttempt_is_open => k_is)
    (case aCKeeper => k_is)
    (case pgKeeper => k_is)
    (case hdKeeper => k_is)
    (case poKeeper => k_is)
    (case saKeeper => k_is)
    (case mkKeeper => k_is)
    (case kcKeeper => k_is)
    (case nKeeper_world => k_is)
    (case nKeeper_boxes => k_is)
    (case nKeeper_marks => k_is)
    (case nKeeper_holders => k_is)
    (case nKeeper_time => k_is)
    (case nKeeper_attempts => k_is)
    (case nKeeper_events => k_is)
    (case aAttempt_init => k_is)
    (case iAttempt_init => k_is)
    (case lAttempt_init => k_is)
    (case cAttempt_init => k_is)
    (case kAttempt_init => k_is)
    (case aKeeper_init => k_is)
    (case iKeeper_init => k_is)
    (case lKeeper_init => k_is)
    (case cKeeper_init => k_is)
    (case kKeeper_init => k_is)
    (case aKeeper_open_one => k_is)
    (case iKeeper_open_one => k_is)
    (case lKeeper_open_one => k_is)
    (case cKeeper_open_one => k_is)
    (case kKeeper_open_one => k_is)
    (case aKeeper_going_one => k_is)
    (case iKeeper_going_one => k_is)
    (case lKeeper_going_one => k_is)
    (case cKeeper_going_one => k_is)
    (case kKeeper_going_one => k_is)
    (case aKeeper_begin => k_is)
    (case iKeeper_begin => k_is)
    (case lKeeper_begin => k_is)
    (case cKeeper_begin => k_is)
    (case kKeeper_begin => k_is)
    (case aKeeper_ends => k_is)
    (case iKeeper_ends => k_is)
    (case lKeeper_ends => k_is)
    (case cKeeper_ends => k_is)
    (case kKeeper_ends => k_is)
    (case aKeeper_is_free => k_is)
    (case iKeeper_is_free => k_is)
    (case lKeeper_is_free => k_is)
    (case cKeeper_is_free => k_is)
    (case kKeeper_is_free => k_is)
    (case aKeeper_is_still => k_is)
    (case iKeeper_is_still => k_is)
    (case lKeeper_is_still => k_is)
    (case cKeeper_is_still => k_is)
    (case kKeeper_is_still => k_is)
    (case aKeeper_would_fall => k_is)
    (case iKeeper_would_fall => k_is)
    (case lKeeper_would_fall => k_is)
    (case cKeeper_would_fall => k_is)
    (case kKeeper_would_fall => k_is)
    (case aKeeper_look => k_is)
    (case iKeeper_look => k_is)
    (case lKeeper_look => k_is)
    (case cKeeper_look => k_is)
    (case kKeeper_look => k_is)
    (case aKeeper_put => k_is)
    (case iKeeper_put => k_is)
    (case lKeeper_put => k_is)
    (case cKeeper_put => k_is)
    (case kKeeper_put => k_is)
    (case aKeeper_can_take => k_is)
    (case iKeeper_can_take => k_is)
    (case lKeeper_can_take => k_is)
    (case cKeeper_can_take => k_is)
    (case kKeeper_can_take => k_is)
    (case aKeeper_take => k_is)
    (case iKeeper_take => k_is)
    (case lKeeper_take => k_is)
    (case cKeeper_take => k_is)
    (case kKeeper_take => k_is)
    (case aKeeper_write => k_is)
    (case iKeeper_write => k_is)
    (case lKeeper_write => k_is)
    (case cKeeper_write => k_is)
    (case kKeeper_write => k_is)
    (case aKeeper_now => k_is)
    (case iKeeper_now => k_is)
    (case lKeeper_now => k_is)
    (case cKeeper_now => k_is)
    (case kKeeper_now => k_is)
    (case alaw_well => k_is)
    (case llaw_well => k_is)
    (case claw_well => k_is)
    (case klaw_well => k_is)
    (case alaw_sip => k_is)
    (case llaw_sip => k_is)
    (case claw_sip => k_is)
    (case klaw_sip => k_is)
    (case alaw_goes => k_is)
    (case llaw_goes => k_is)
    (case claw_goes => k_is)
    (case klaw_goes => k_is)
    (case alaw_ends => k_is)
    (case llaw_ends => k_is)
    (case claw_ends => k_is)
    (case klaw_ends => k_is)
    (case alaw_35 => k_is)
    (case llaw_35 => k_is)
    (case claw_35 => k_is)
    (case klaw_35 => k_is)
    (case b_len => k_is)
    (case b_int => k_is)
    (case b_str => k_is)
    (case b_list => k_is)
    (case b_tuple => k_is)
    (case b_sorted => k_is)
    (case b_all => k_is)
    (case b_any => k_is)
    (case b_min => k_is)
    (case b_max => k_is)
    (case b_range => k_is)
    (case b_enumerate => k_is)
    (case b_zip => k_is)
    (case b_isinstance => k_is)
    (case b_bool => k_is)
    (case b_dict => k_is)
    (case b_sum => k_is)
    (case b_set => k_is)
