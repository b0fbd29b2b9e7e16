import PyProof.Rows.All
import Wide.All
import OpenK.AllK
import Wide.FinOn
import HandS.ForMost
import HandS.Wide
import HandS.Text
import HandS.Deep
import KE.KDictKeyed
import KE.KeyNested
import HandS.TupAny
import HandS.TupMul
import HandS.IsInst
import HandS.Style
import HandS.SortInts
import HandS.Zip
import PyProof.ReprRoads
import HandS.Conv
import HandS.TupLen
import HandS.More
import HandS.SetFor
import HandS.DictTup
import HandS.TupSets
import PyProof.Rows.TupMore
import KE.KDictSum
import PyProof.SeqIndex
import KE.GoesEnum
import HandS.TryOnly
import HandS.Iter
import KE.KDictDisplayH
import KE.KDictIter
import HandS.EndBits
import HandS.Defaults
import HandS.Head2
import HandS.HeadEnd
import HandS.HeadHook2
import HandS.HeadHook3
import PySem.Challenge.RW_oneglance_k29_orders_and_rings_looked_at
set_option Elab.async false
set_option linter.all false
set_option maxRecDepth 100000
set_option maxHeartbeats 4000000
namespace DL
open PySem L2
inductive D where
  | non | bl (b : Bool) | int (i : Int) | str (s : List Nat) | ref (a : Addr) | tup (ds : List D) | xt (ds : List D)
  deriving Inhabited
inductive Vx where
  | d (x : D) | vl (ds : List D) | bw (ds : List D) | fz (ds : List D) | vd (kvs : List (D × D)) | bd (kvs : List (D × D)) | st (ds : List D)
inductive O where
  | lst (ds : List D) | dic (kvs : List (D × D)) | ins (c : Nat) (fs : List D)
  | fdc (kvs : List (D × D)) (h : HO)
  | dn (kvs : List (D × D)) | fdn (kvs : List (D × D)) (h : HO) (xs : List (NestedKey × Addr × Value))
noncomputable abbrev Hs := Addr → Option O
noncomputable def su (s : Hs) (a : Addr) (o : O) : Hs := fun b => if b = a then some o else s b
noncomputable def mn (a : Addr) (s : Hs) : Hs := fun b => if b = a then none else s b
theorem mn_same {s : Hs} {a : Addr} : mn a s a = none := by unfold mn; rw [if_pos rfl]
theorem mn_ne {s : Hs} {a b : Addr} (h : b ≠ a) : mn a s b = s b := by unfold mn; rw [if_neg h]
theorem su_same {s : Hs} {a : Addr} {o : O} : su s a o a = some o := by unfold su; rw [if_pos rfl]
theorem su_ne {s : Hs} {a b : Addr} {o : O} (h : b ≠ a) : su s a o b = s b := by unfold su; rw [if_neg h]
noncomputable abbrev Sl := List (Option Vx)
inductive Cn where
  | l (ds : List D) | f (ds : List D) | k (kvs : List (D × D)) | t (ds : List D) | s (cs : List Nat) | i (c : Nat) (fs : List D) | e (ds : List D) | kf (kvs : List (D × D)) | kn (kvs : List (D × D)) | kfn (kvs : List (D × D))
noncomputable def O.cn : O → Cn
  | .lst ds => .l ds
  | .dic kvs => .k kvs
  | .ins c fs => .i c fs
  | .fdc kvs _ => .kf kvs
  | .dn kvs => .kn kvs
  | .fdn kvs _ _ => .kfn kvs
noncomputable def view : Vx → Hs → (Cn → Prop) → Prop
  | .d (.tup ds), _, K => K (.t ds)
  | .d (.xt ds), _, K => K (.t ds)
  | .d (.str s), _, K => K (.s s)
  | .d (.ref a), S, K => ∃ o, S a = some o ∧ K o.cn
  | .vl ds, _, K => K (.l ds)
  | .bw ds, _, K => K (.l ds)
  | .fz ds, _, K => K (.f ds)
  | .vd kvs, _, K => K (.k kvs)
  | .bd kvs, _, K => K (.k kvs)
  | .st ds, _, K => K (.e ds)
  | _, _, _ => False
noncomputable def bor : Vx → Vx
  | .vl ds => .bw ds
  | .vd kvs => .bd kvs
  | x => x
noncomputable def bx : Vx → Hs → (D → Hs → Prop) → Prop
  | .d x, S, K => K x S
  | .vl ds, S, K => ∀ a, S a = none → K (.ref a) (su S a (.lst ds))
  | .vd kvs, S, K => ∀ a, S a = none → K (.ref a) (su S a (.dic kvs))
  | _, _, _ => False
mutual
noncomputable def eqB : D → D → Bool
  | .non, .non => true
  | .bl a, .bl b => a == b
  | .bl a, .int j => decide ((if a then 1 else 0 : Int) = j)
  | .int i, .bl b => decide (i = (if b then 1 else 0 : Int))
  | .int i, .int j => decide (i = j)
  | .str a, .str b => decide (a = b)
  | .tup a, .tup b => eqBs a b
  | _, _ => false
noncomputable def eqBs : List D → List D → Bool
  | [], [] => true
  | a :: as, b :: bs => eqB a b && eqBs as bs
  | _, _ => false
end
mutual
noncomputable def pl : Nat → D → Bool
  | _, .ref _ => false
  | _, .xt _ => false
  | 0, .tup _ => false
  | n + 1, .tup ds => pls n ds
  | _, .str s => s.all fun c => decide (c < 1114112)
  | _, _ => true
noncomputable def pls : Nat → List D → Bool
  | _, [] => true
  | n, d :: ds => pl n d && pls n ds
end
noncomputable abbrev pln (d : D) : Bool := pl 60 d
noncomputable abbrev plns (ds : List D) : Bool := pls 60 ds
noncomputable def flatD : D → Bool
  | .tup _ => false
  | .xt _ => false
  | .ref _ => false
  | _ => true
noncomputable def getI {α : Type} (ds : List α) (i : Int) : Option α := match i with
  | .ofNat n => ds[n]?
  | .negSucc n => if n < ds.length then ds[ds.length - (n + 1)]? else none
noncomputable def dget : List (D × D) → D → Option D
  | [], _ => none
  | (k, v) :: r, x => match eqB k x with
    | true => some v
    | false => dget r x
noncomputable def dhas (kvs : List (D × D)) (x : D) : Bool := (dget kvs x).isSome
noncomputable def dput (kvs : List (D × D)) (x y : D) : List (D × D) := match dhas kvs x with
  | true => kvs.map fun p => match eqB p.1 x with
    | true => (p.1, y)
    | false => p
  | false => kvs ++ [(x, y)]
noncomputable def keyD : D → Bool
  | .int _ => true
  | .str _ => true
  | _ => false
noncomputable def keyN : D → Bool
  | .tup ds => pl 8 (.tup ds)
  | _ => false
noncomputable def seqOf : Cn → Option (List D)
  | .l ds => some ds
  | .f ds => some ds
  | .t ds => some ds
  | _ => none
inductive O2 where
  | add | sub | mul | fdiv | mod | pow | idx | eq | ne | lt | le | gt | ge | is | isnt | mem | nmem | min | max | eqh | neh | memh | nmemh | memr | nmemr
  deriving DecidableEq
inductive Ty where
  | int | bool | str | tuple | list | dict
  deriving DecidableEq
inductive O1 where
  | neg | len | int | str | list | tuple | sorted | all | any | dict | dictP | sortedP | sum | maxl | minl | sortedN | sortedDn | listDn | listK | lenDn | tupleX | isi (t : Ty)
  deriving DecidableEq
noncomputable def mulOk (i j : Int) : Prop := ((-(2 ^ 64) < i ∧ i < 2 ^ 64) ∨ (-(2 ^ 64) < j ∧ j < 2 ^ 64)) ∨ i.natAbs.log2 + j.natAbs.log2 < 1000000
noncomputable def fdivOk (_ j : Int) : Prop := 0 < j ∧ j.natAbs.log2 < 9000
noncomputable def powOk (i j : Int) : Prop := 0 ≤ j ∧ j ≤ 1000000 ∧ i.natAbs < 2 ^ 64
noncomputable abbrev VK2 := Vx → Hs → Prop
noncomputable def addC : Cn → Cn → Hs → VK2 → Prop
  | .l a, .l b, S, Q => a.length + b.length ≤ sizeLine ∧ Q (.vl (a ++ b)) S
  | _, _, _, _ => False
noncomputable def addD : Vx → Vx → Hs → VK2 → Prop
  | .d (.int i), .d (.int j), S, Q => Q (.d (.int (i + j))) S
  | .d (.str a), .d (.str b), S, Q => a.length + b.length ≤ sizeLine ∧ Q (.d (.str (a ++ b))) S
  | .d (.tup a), .d (.tup b), S, Q => a.length + b.length ≤ sizeLine ∧ Q (.d (.tup (a ++ b))) S
  | x, y, S, Q => view x S fun c => view y S fun c' => addC c c' S Q
noncomputable def repD {α : Type} (xs : List α) (n : Nat) : List α := (List.replicate n xs).flatten
noncomputable def mulC : Cn → Int → Hs → VK2 → Prop
  | .l a, k, S, Q => k < 2 ^ 62 ∧ a.length * k.toNat ≤ sizeLine ∧ Q (.vl (repD a k.toNat)) S
  | _, _, _, _ => False
noncomputable def mulD : Vx → Vx → Hs → VK2 → Prop
  | .d (.int i), .d (.int j), S, Q => mulOk i j ∧ Q (.d (.int (i * j))) S
  | .d (.tup a), .d (.int k), S, Q => (-(2 ^ 62) < k ∧ k ≤ 1000 ∧ a.length ≤ 1000) ∧ Q (.d (.tup (repD a k.toNat))) S
  | x, .d (.int k), S, Q => -(2 ^ 62) < k ∧ view x S fun c => mulC c k S Q
  | _, _, _, _ => False
noncomputable def intD (f : Int → Int → VK2 → Hs → Prop) : Vx → Vx → Hs → VK2 → Prop
  | .d (.int i), .d (.int j), S, Q => f i j Q S
  | _, _, _, _ => False
noncomputable def idxC : Cn → D → Hs → VK2 → Prop
  | .l ds, .int i, S, Q => ∃ y, getI ds i = some y ∧ Q (.d y) S
  | .f ds, .int i, S, Q => ∃ y, getI ds i = some y ∧ Q (.d y) S
  | .t ds, .int i, S, Q => ∃ y, getI ds i = some y ∧ Q (.d y) S
  | .s cs, .int i, S, Q => cs.length ≤ sizeLine ∧ ∃ c, getI cs i = some c ∧ Q (.d (.str [c])) S
  | .k kvs, x, S, Q => keyD x = true ∧ ∃ y, dget kvs x = some y ∧ Q (.d y) S
  | .kf kvs, x, S, Q => keyD x = true ∧ ∃ y, dget kvs x = some y ∧ Q (.d y) S
  | .kn kvs, x, S, Q => keyN x = true ∧ ∃ y, dget kvs x = some y ∧ Q (.d y) S
  | .kfn kvs, x, S, Q => keyN x = true ∧ ∃ y, dget kvs x = some y ∧ Q (.d y) S
  | _, _, _, _ => False
noncomputable def idxD : Vx → Vx → Hs → VK2 → Prop
  | x, .d k, S, Q => view x S fun c => idxC c k S Q
  | _, _, _, _ => False
noncomputable def eqC : Cn → Cn → (Bool → Prop) → Prop
  | .l a, .l b, K => (b = [] ∨ (plns a = true ∧ plns b = true)) ∧ K (eqBs a b)
  | .k a, .k b, K => b = [] ∧ K a.isEmpty
  | _, _, _ => False
noncomputable def eqD : Vx → Vx → Hs → (Bool → Prop) → Prop
  | .d (.ref a), y, S, K => view (.d (.ref a)) S fun c => view y S fun c' => eqC c c' K
  | .d x, .d (.ref b), S, K => False
  | .d x, .d y, _, K => pln x = true ∧ pln y = true ∧ K (eqB x y)
  | x, y, S, K => view x S fun c => view y S fun c' => eqC c c' K
noncomputable def isD : Vx → Vx → Option Bool
  | .d .non, .d .non => some true
  | _, .d .non => some false
  | .d (.bl a), .d (.bl b) => some (decide (a = b))
  | _, _ => none
noncomputable def memC : Cn → D → (Bool → Prop) → Prop
  | .l ds, x, K => pln x = true ∧ plns ds = true ∧ K (ds.any fun y => eqB y x)
  | .t ds, x, K => flatD x = true ∧ ds.all flatD = true ∧ K (ds.any fun y => eqB y x)
  | .k kvs, x, K => keyD x = true ∧ K (dhas kvs x)
  | .kf kvs, x, K => keyD x = true ∧ K (dhas kvs x)
  | .kn kvs, x, K => keyN x = true ∧ K (dhas kvs x)
  | .kfn kvs, x, K => keyN x = true ∧ K (dhas kvs x)
  | .s cs, .str [c], K => K (decide (c ∈ cs))
  | _, _, _ => False
noncomputable def memD : Vx → Vx → Hs → (Bool → Prop) → Prop
  | .d x, y, S, K => view y S fun c => memC c x K
  | _, _, _, _ => False
noncomputable def memHC : Cn → D → (Bool → Prop) → Prop
  | .t ds, x, K => pln x = true ∧ (pls 59 ds = true ∧ plns ds = true) ∧ K (ds.any fun y => eqB y x)
  | _, _, _ => False
noncomputable def memH : Vx → Vx → Hs → (Bool → Prop) → Prop
  | .d x, y, S, K => view y S fun c => memHC c x K
  | _, _, _, _ => False
noncomputable def ltD (p : Int → Int → Bool) : Vx → Vx → Hs → VK2 → Prop := intD fun i j Q S => Q (.d (.bl (p i j))) S
mutual
noncomputable def resP (S : Hs) : Nat → D → Option PyData
  | _, .non => some .none
  | _, .bl b => some (.bool b)
  | _, .int i => some (.int i)
  | _, .str s => some (.str ⟨s.toArray⟩)
  | n + 1, .tup ds => (resPs S n ds).map PyData.tuple
  | n + 1, .xt ds => (resPs S n ds).map PyData.tuple
  | n + 1, .ref a => match S a with
    | some (.lst ds) => (resPs S n ds).map PyData.list
    | _ => none
  | 0, _ => none
  termination_by n d => (n, sizeOf d)
noncomputable def resPs (S : Hs) : Nat → List D → Option (List PyData)
  | _, [] => some []
  | n, d :: ds => match resP S n d, resPs S n ds with
    | some p, some ps => some (p :: ps)
    | _, _ => none
  termination_by n ds => (n, sizeOf ds)
end
noncomputable def resX (S : Hs) : Vx → Option PyData
  | .d x => resP S 50 x
  | .vl ds => (resPs S 49 ds).map PyData.list
  | .bw ds => (resPs S 49 ds).map PyData.list
  | _ => none
noncomputable def eqH (x y : Vx) (S : Hs) (K : Bool → Prop) : Prop := ∃ p q, resX S x = some p ∧ resX S y = some q ∧ SeqAt.shaped p = true ∧ SeqAt.shaped q = true ∧ K (PyData.eqv p q)
noncomputable def memR (x y : Vx) (S : Hs) (K : Bool → Prop) : Prop := ∃ p q ps, resX S x = some p ∧ resX S y = some q ∧ SeqAt.shaped p = true ∧ SeqAt.shaped q = true ∧ (q = .tuple ps ∨ q = .list ps) ∧ K (ps.any fun z => PyData.eqv z p)
noncomputable def op2D : O2 → Vx → Vx → Hs → VK2 → Prop
  | .add, x, y, S, Q => addD x y S Q
  | .sub, x, y, S, Q => intD (fun i j Q S => Q (.d (.int (i - j))) S) x y S Q
  | .mul, x, y, S, Q => mulD x y S Q
  | .fdiv, x, y, S, Q => intD (fun i j Q S => fdivOk i j ∧ Q (.d (.int (i / j))) S) x y S Q
  | .mod, x, y, S, Q => intD (fun i j Q S => 0 < j ∧ Q (.d (.int (i % j))) S) x y S Q
  | .pow, x, y, S, Q => intD (fun i j Q S => powOk i j ∧ Q (.d (.int (i ^ j.toNat))) S) x y S Q
  | .idx, x, y, S, Q => idxD x y S Q
  | .eq, x, y, S, Q => eqD x y S fun b => Q (.d (.bl b)) S
  | .ne, x, y, S, Q => eqD x y S fun b => Q (.d (.bl (!b))) S
  | .eqh, x, y, S, Q => eqH x y S fun b => Q (.d (.bl b)) S
  | .neh, x, y, S, Q => eqH x y S fun b => Q (.d (.bl (!b))) S
  | .lt, x, y, S, Q => ltD (fun i j => decide (i < j)) x y S Q
  | .le, x, y, S, Q => ltD (fun i j => decide (i ≤ j)) x y S Q
  | .gt, x, y, S, Q => ltD (fun i j => decide (j < i)) x y S Q
  | .ge, x, y, S, Q => ltD (fun i j => decide (j ≤ i)) x y S Q
  | .is, x, y, S, Q => ∃ b, isD x y = some b ∧ Q (.d (.bl b)) S
  | .isnt, x, y, S, Q => ∃ b, isD x y = some b ∧ Q (.d (.bl (!b))) S
  | .mem, x, y, S, Q => memD x y S fun b => Q (.d (.bl b)) S
  | .nmem, x, y, S, Q => memD x y S fun b => Q (.d (.bl (!b))) S
  | .memh, x, y, S, Q => memH x y S fun b => Q (.d (.bl b)) S
  | .nmemh, x, y, S, Q => memH x y S fun b => Q (.d (.bl (!b))) S
  | .memr, x, y, S, Q => memR x y S fun b => Q (.d (.bl b)) S
  | .nmemr, x, y, S, Q => memR x y S fun b => Q (.d (.bl (!b))) S
  | .min, x, y, S, Q => intD (fun i j Q S => Q (.d (.int (if j < i then j else i))) S) x y S Q
  | .max, x, y, S, Q => intD (fun i j Q S => Q (.d (.int (if j > i then j else i))) S) x y S Q
noncomputable def lenC : Cn → Option Nat
  | .l ds => some ds.length
  | .f ds => some ds.length
  | .t ds => some ds.length
  | .k kvs => some kvs.length
  | .s cs => if cs.length ≤ sizeLine then some cs.length else none
  | .e ds => some ds.length
  | .i _ _ => none
  | .kf _ => none
  | .kn _ => none
  | .kfn _ => none
noncomputable def Ty.isD : Ty → D → Hs → Option Bool
  | t, .non, _ => some false
  | t, .bl _, _ => some (decide (t = .bool) || decide (t = .int))
  | t, .int _, _ => some (decide (t = .int))
  | t, .str _, _ => some (decide (t = .str))
  | t, .tup _, _ => some (decide (t = .tuple))
  | t, .xt _, _ => some (decide (t = .tuple))
  | t, .ref a, S => match S a with
    | some (.lst _) => some (decide (t = .list))
    | some (.dic _) => some (decide (t = .dict))
    | _ => none
noncomputable def negD : Vx → Hs → VK2 → Prop
  | .d (.int i), S, Q => Q (.d (.int (-i))) S
  | _, _, _ => False
noncomputable def toIntD : Vx → Hs → VK2 → Prop
  | .d (.int i), S, Q => Q (.d (.int i)) S
  | .d (.bl b), S, Q => Q (.d (.int (if b then 1 else 0))) S
  | .d (.str s), S, Q => ∃ n, (PySem.intText? (⟨s.toArray⟩ : Str) = some n ∧ s.length ≤ 640) ∧ Q (.d (.int n)) S
  | _, _, _ => False
noncomputable def shWords : List (List Nat) := [[108, 111, 111, 107], [112, 117, 116], [115, 101, 116], [112, 108, 117, 115], [108, 101, 97, 112], [119, 97, 105, 116], [116, 114, 121]]
mutual
noncomputable def shD : D → Bool
  | .int i => decide (0 ≤ i) && decide (i ≤ 1000)
  | .str s => decide (s ∈ shWords)
  | .tup ds => shDs ds
  | _ => false
noncomputable def shDs : List D → Bool
  | [] => true
  | d :: ds => shD d && shDs ds
end
mutual
noncomputable def shL : D → Nat
  | .tup ds => 5 + shLs ds
  | _ => 8
noncomputable def shLs : List D → Nat
  | [] => 0
  | d :: ds => shL d + 2 + shLs ds
end
noncomputable def strD : Vx → Hs → VK2 → Prop
  | .d (.int i), S, Q => i.natAbs.log2 < 1920 ∧ Q (.d (.str ((toString i : String).toList.map Char.toNat))) S
  | .d (.tup ds), S, Q => (pls 40 ds = true ∧ shDs ds = true ∧ shLs ds ≤ 1000000) ∧ ∀ t : List Nat, (t.all fun c => decide (c < 1114112)) = true → Q (.d (.str t)) S
  | _, _, _ => False
noncomputable def isiD (t : Ty) : Vx → Hs → VK2 → Prop
  | .d x, S, Q => ∃ b, t.isD x S = some b ∧ Q (.d (.bl b)) S
  | .bw _, S, Q => Q (.d (.bl (decide (t = .list)))) S
  | _, _, _ => False
noncomputable def srtOf (c : Cn) (ns : List Int) : Prop := c = .l (ns.map D.int) ∨ (∃ kvs, c = .k kvs ∧ kvs.map Prod.fst = ns.map D.int ∧ ns.length < 64) ∨ c = .t (ns.map D.int)
noncomputable abbrev pairD (p : Int × Int) : D := .tup [.int p.1, .int p.2]
noncomputable def ltP2 (p q : Int × Int) : Prop := p.1 < q.1 ∨ (p.1 = q.1 ∧ p.2 < q.2)
noncomputable def srtP (qs : List (Int × Int)) : Prop := qs.Pairwise fun p q => ¬ ltP2 q p
noncomputable def mrgD (kvs more : List (D × D)) : List (D × D) := more.foldl (fun acc kv => dput acc kv.1 kv.2) kvs
noncomputable abbrev tupI (p : List Int) : D := .tup (p.map D.int)
noncomputable def lexN : List Int → List Int → Bool
  | [], [] => false
  | [], _ :: _ => true
  | _ :: _, [] => false
  | x :: p, y :: q => if x = y then lexN p q else decide (x < y)
noncomputable def srtN (ps : List (List Int)) : Prop := ps.Pairwise fun p q => lexN q p = false
noncomputable def op1D : O1 → Vx → Hs → VK2 → Prop
  | .neg, x, S, Q => negD x S Q
  | .len, x, S, Q => view x S fun c => ∃ n, lenC c = some n ∧ Q (.d (.int (n : Int))) S
  | .int, x, S, Q => toIntD x S Q
  | .str, x, S, Q => strD x S Q
  | .list, x, S, Q => view x S fun c => ∃ ds, seqOf c = some ds ∧ Q (.vl ds) S
  | .tuple, x, S, Q => view x S fun c => ∃ ds, seqOf c = some ds ∧ Q (.d (.tup ds)) S
  | .tupleX, x, S, Q => view x S fun c => ∃ ds, c = .l ds ∧ Q (.d (.xt ds)) S
  | .sorted, x, S, Q => view x S fun c => ∃ ns : List Int, srtOf c ns ∧ ∀ ns' : List Int, ns'.Perm ns → ns'.Pairwise (· ≤ ·) → Q (.vl (ns'.map D.int)) S
  | .sortedP, x, S, Q => view x S fun c => ∃ ps : List (Int × Int), c = .l (ps.map pairD) ∧ ∀ qs : List (Int × Int), qs.Perm ps → srtP qs → Q (.vl (qs.map pairD)) S
  | .sortedN, x, S, Q => view x S fun c => ∃ ps : List (List Int), c = .l (ps.map tupI) ∧ (∀ p ∈ ps, p ≠ []) ∧ ∀ qs : List (List Int), qs.Perm ps → srtN qs → Q (.vl (qs.map tupI)) S
  | .sortedDn, x, S, Q => view x S fun c => ∃ (kvs : List (D × D)) (ps : List (List Int)), c = .kn kvs ∧ kvs.map Prod.fst = ps.map tupI ∧ (∀ p ∈ ps, p ≠ []) ∧ ∀ qs : List (List Int), qs.Perm ps → srtN qs → Q (.vl (qs.map tupI)) S
  | .listK, x, S, Q => view x S fun c => ∃ kvs, c = .k kvs ∧ Q (.vl (kvs.map Prod.fst)) S
  | .listDn, x, S, Q => view x S fun c => ∃ kvs, c = .kn kvs ∧ Q (.vl (kvs.map Prod.fst)) S
  | .lenDn, x, S, Q => view x S fun c => ∃ kvs, c = .kn kvs ∧ Q (.d (.int (kvs.length : Nat))) S
  | .sum, x, S, Q => view x S fun c => ∃ ns : List Int, c = .l (ns.map D.int) ∧ Q (.d (.int ns.sum)) S
  | .maxl, x, S, Q => view x S fun c => ∃ ns : List Int, c = .l (ns.map D.int) ∧ 0 < ns.length ∧ ∀ m, m ∈ ns → (∀ y, y ∈ ns → y ≤ m) → Q (.d (.int m)) S
  | .minl, x, S, Q => view x S fun c => ∃ ns : List Int, c = .l (ns.map D.int) ∧ 0 < ns.length ∧ ∀ m, m ∈ ns → (∀ y, y ∈ ns → m ≤ y) → Q (.d (.int m)) S
  | .dict, x, S, Q => view x S fun c => ∃ kvs, c = .k kvs ∧ Q (.vd kvs) S
  | .dictP, x, S, Q => view x S fun c => ∃ ps : List (Int × Int), c = .l (ps.map pairD) ∧ Q (.vd (mrgD [] (ps.map fun p => (D.int p.1, D.int p.2)))) S
  | .all, x, S, Q => view x S fun c => ∃ (ds : List D) (bs : List Bool), c = .l ds ∧ ds = bs.map D.bl ∧ Q (.d (.bl (bs.all id))) S
  | .any, x, S, Q => view x S fun c => ∃ (ds : List D) (bs : List Bool), c = .l ds ∧ ds = bs.map D.bl ∧ Q (.d (.bl (bs.any id))) S
  | .isi t, x, S, Q => isiD t x S Q
inductive M where
  | append | pop | popAt | insert | extend | clear | setI | remove
  deriving DecidableEq
noncomputable def ddrop (kvs : List (D × D)) (k : D) : List (D × D) := kvs.filter fun p => !eqB p.1 k
noncomputable def mutC : M → Cn → List Vx → Hs → (Cn → D → Prop) → Prop
  | .append, .l ds, [.d x], _, K => ds.length < sizeLine ∧ K (.l (ds ++ [x])) .non
  | .pop, .l ds, [], _, K => ∃ y, ds[ds.length - 1]? = some y ∧ K (.l ds.dropLast) y
  | .popAt, .l ds, [.d (.int (.ofNat n))], _, K => ∃ y, ds[n]? = some y ∧ K (.l (ds.eraseIdx n)) y
  | .setI, .l ds, [.d (.int (.ofNat n)), .d x], _, K => n < ds.length ∧ K (.l (ds.set n x)) .non
  | .setI, .l ds, [.d (.int (.negSucc n)), .d x], _, K => n < ds.length ∧ K (.l (ds.set (ds.length - (n + 1)) x)) .non
  | .setI, .k kvs, [.d k, .d x], _, K => keyD k = true ∧ kvs.length < sizeLine ∧ K (.k (dput kvs k x)) .non
  | .setI, .kn kvs, [.d k, .d x], _, K => keyN k = true ∧ kvs.length < sizeLine ∧ K (.kn (dput kvs k x)) .non
  | .insert, .l ds, [.d (.int (.ofNat n)), .d x], _, K => ds.length < sizeLine ∧ n < 1000000 ∧ K (.l (ds.take n ++ [x] ++ ds.drop n)) .non
  | .extend, .l ds, [x], S, K => view x S fun c => ∃ es, c = .l es ∧ ds.length + es.length ≤ sizeLine ∧ K (.l (ds ++ es)) .non
  | .clear, .l ds, [], _, K => K (.l []) .non
  | .remove, .l ds, [.d (.int k)], _, K => ∃ (ns : List Int) (j : Nat), ds = ns.map D.int ∧ ns[j]? = some k ∧ (∀ m : Nat, m < j → ns[m]? ≠ some k) ∧ K (.l ((ns.eraseIdx j).map D.int)) .non
  | _, _, _, _, _ => False
noncomputable def Cn.o : Cn → Option O
  | .l ds => some (.lst ds)
  | .k kvs => some (.dic kvs)
  | .kn kvs => some (.dn kvs)
  | _ => none
noncomputable def Cn.v : Cn → Vx
  | .l ds => .vl ds
  | .k kvs => .vd kvs
  | _ => .d .non
inductive BM where
  | index | count | join | split | indexT
  deriving DecidableEq
inductive Tg where
  | nm (i : Nat) | tp (is : List Nat)
  deriving DecidableEq
inductive R where
  -- expressions
  | v (i : Nat) | i (n : Int) | s (x : List Nat) | b (x : Bool) | n | g (k : Nat)
  | o1 (o : O1) (a : R) | o2 (o : O2) (a b : R)
  | nil | cons (a r : R) | consb (a r : R) | pr (k v r : R)
  | tup (as : R) | lst (as : R) | dct | dctp (ps : R) | get1 (o k : R) | dpop (o k : R) | get2 (o k d : R) | get2N (o k d : R)
  | and (a r : R) | or (a r : R) | one (a : R) | not (a : R) | ife (c a b : R)
  | chain (o o' : O2) (a b c : R)
  | slc (a lo hi : R)
  | call (f : Nat) (as : R) | meth (f : Nat) (o as : R) | make (c : Nat) (as : R) | maken (c : Nat) (as : R)
  | fld (o : R) (ci k : Nat)
  | hm (m : M) (o as : R)
  | comp (tg : Tg) (elt it tst : R) | lockE (e : R)
  | sIt (e : R) | rev (e : R) | lrg (a : R) | bm1 (m : BM) (o a : R) | upper (o : R) | setop (k : Bool) (a : R) | setP (a : R) | slr (a hi k : R) | slen (a : R)
  | lend (i : Nat) (e : R) | kmem (neg : Bool) (k : Nat) (a : R) | kidx (k : Nat) (a : R) | dctn | lockEN (e : R) | stp (a k : R) | dctn1 (k v : R) | lockV (e : R)
  -- what is walked
  | itv (i : Nat) | ite (e : R) | ichs (e : R) | rng (a : R) | rng2 (a b : R) | rng3 (a b s : R) | enu (a : R) | zip (a b : R) | itk (e : R) | itms (e : R) | itkn (e : R) | enuk (e : R)
  -- statements
  | seq (a r : R) | skip | expr (e : R) | set (i : Nat) (e : R) | setT (is : List Nat) (e : R)
  | seti (o k e : R) | fset (o : R) (ci k : Nat) (e : R) | setNAN (i : Nat) (o : R) (ci k j : Nat) (e : R)
  | iff (c a r : R) | whl (c a : R) | for (tg : Tg) (it a : R)
  | ret (e : R) | retn | retv (i : Nat) | brk | cnt | never | box (i : Nat)
  | om (m : M) (i : Nat) (as : R) (dst : Option Nat) | oseti (i : Nat) (k e : R) | faug (o : R) (ci k : Nat) (e : R) | lock (st : R) | tryp (st : R) | lockN (st : R) | slcset (o e : R)
  deriving Inhabited
structure Fn where
  np : Nat
  nl : Nat
  body : R
structure Tbl where
  fn : Nat → Option Fn
  glob : Nat → Vx
  cini : Nat → Nat
  fcls : Nat → Nat
  kd : Nat → List (List Nat × D)
noncomputable abbrev LK2 := List Vx → Hs → Prop
noncomputable def one1 (Q : VK2) : LK2 := fun xs S => match xs with
  | [x] => Q x S
  | _ => False
noncomputable def tstK (K : Bool → Hs → Prop) : VK2 := fun x S => match x with
  | .d (.bl b) => K b S
  | _ => False
structure Br (b : Bool) (A B : Prop) : Prop where
  t : b = true → A
  f : b = false → B
structure It2 where
  items : List D
  ok : Sl → Hs → Prop
  tu : Bool
noncomputable def bindN : List Nat → List D → Sl → Option Sl
  | [], [], σ => some σ
  | i :: is, x :: xs, σ => bindN is xs (σ.set i (some (.d x)))
  | _, _, _ => none
noncomputable def bindT : Tg → D → Sl → (Sl → Prop) → Prop
  | .nm i, x, σ, K => K (σ.set i (some (.d x)))
  | .tp is, .tup xs, σ, K => ∃ σ', bindN is xs σ = some σ' ∧ K σ'
  | _, _, _, _ => False
noncomputable def compL (tg : Tg) (ok : Sl → Hs → Prop) (elt : Sl → Hs → (D → Hs → Prop) → Prop) (tst : Sl → Hs → (Bool → Hs → Prop) → Prop) (σ : Sl) : List D → List D → Hs → (List D → Hs → Prop) → Prop
  | [], acc, S, K => ok σ S ∧ K acc S
  | x :: xs, acc, S, K => ok σ S ∧ bindT tg x σ fun σ' => tst σ' S fun b S1 => Br b
      (elt σ' S1 fun y S2 => acc.length < sizeLine ∧ compL tg ok elt tst σ xs (acc ++ [y]) S2 K) (compL tg ok elt tst σ xs acc S1 K)
noncomputable def zipD : List D → List D → List D
  | a :: as, b :: bs => .tup [a, b] :: zipD as bs
  | _, _ => []
noncomputable def enumD : Nat → List D → List D
  | _, [] => []
  | n, a :: as => .tup [.int n, a] :: enumD (n + 1) as
noncomputable def rngD (lo : Int) : Nat → List D
  | 0 => []
  | n + 1 => .int lo :: rngD (lo + 1) n
noncomputable def rngC (lo c : Int) (n : Nat) : List D := (List.range n).map fun (i : Nat) => .int (lo + (i : Int) * c)
noncomputable def cutI (xs : List α) (lo hi : Option Int) : List α := (xs.drop (HT.sIx xs.length 0 lo)).take (HT.sIx xs.length xs.length hi - HT.sIx xs.length 0 lo)
noncomputable def slcC : Cn → Option Int → Option Int → Hs → VK2 → Prop
  | .l ds, lo, hi, S, Q => Q (.vl (cutI ds lo hi)) S
  | .f ds, lo, hi, S, Q => Q (.vl (cutI ds lo hi)) S
  | .t ds, lo, hi, S, Q => Q (.d (.tup (cutI ds lo hi))) S
  | .s cs, lo, hi, S, Q => cs.length ≤ sizeLine ∧ Q (.d (.str (cutI cs lo hi))) S
  | _, _, _, _, _ => False
noncomputable def optI : R → Vx → Option (Option Int)
  | .n, _ => some none
  | _, .d (.int i) => some (some i)
  | _, _ => none
noncomputable def srcX : Bool → Vx → Hs → (It2 → Hs → Prop) → Prop
  | _, .d (.tup ds), S, K => K ⟨ds, fun _ _ => True, true⟩ S
  | _, .d (.xt ds), S, K => K ⟨ds, fun _ _ => True, true⟩ S
  | _, .d (.ref a), S, K => ∃ ds, S a = some (.lst ds) ∧ K ⟨ds, fun _ S' => S' a = some (.lst ds), false⟩ S
  | _, .vl ds, S, K => K ⟨ds, fun _ _ => True, false⟩ S
  | true, .bw ds, S, K => K ⟨ds, fun _ _ => True, false⟩ S
  | _, .fz ds, S, K => K ⟨ds, fun _ _ => True, false⟩ S
  | _, _, _, _ => False
noncomputable def prsOf : List Vx → Option (List (D × D))
  | [] => some []
  | .d k :: .d v :: r => match keyD k, prsOf r with
    | true, some kvs => some ((k, v) :: kvs)
    | _, _ => none
  | _ => none
noncomputable def dicOf : Cn → Option (List (D × D))
  | .k kvs => some kvs
  | .kf kvs => some kvs
  | _ => none
noncomputable def isK (c : Cn) : Prop := ∃ kvs, dicOf c = some kvs
noncomputable def joinD (s : List Nat) (zs : List (List Nat)) : List Nat := (Txt.join ⟨s.toArray⟩ (zs.map fun z => ⟨z.toArray⟩)).cps.toList
noncomputable def splitD (s t : List Nat) : List (List Nat) := (Txt.split ⟨s.toArray⟩ ⟨t.toArray⟩).map fun z => z.cps.toList
noncomputable def upD (s : List Nat) : List Nat := (Txt.upper ⟨s.toArray⟩).cps.toList
noncomputable def isStrX : Vx → Prop
  | .d (.str _) => True
  | _ => False
noncomputable def bmTy : BM → Vx → Hs → Prop
  | .index, x, S => view x S fun c => ∃ ds, c = .l ds
  | .count, x, S => view x S fun c => ∃ ds, c = .l ds
  | .join, x, _ => isStrX x
  | .split, x, _ => isStrX x
  | .indexT, x, _ => ∃ ds, x = .d (.xt ds)
noncomputable def bmD : BM → Vx → Vx → Hs → VK2 → Prop
  | .index, x, y, S, Q => view x S fun c => ∃ ds yd j z, c = .l ds ∧ y = .d yd ∧ flatD yd = true ∧ ds.all flatD = true ∧ ds[j]? = some z ∧ eqB z yd = true ∧ (∀ (m : Nat) z', m < j → ds[m]? = some z' → eqB z' yd = false) ∧ Q (.d (.int (j : Nat))) S
  | .count, x, y, S, Q => view x S fun c => ∃ (ns : List Int) (k : Int), c = .l (ns.map D.int) ∧ y = .d (.int k) ∧ Q (.d (.int (ns.count k : Nat))) S
  | .indexT, x, y, S, Q => ∃ (ns : List Int) (k : Int), x = .d (.xt (ns.map D.int)) ∧ y = .d (.int k) ∧ k ∈ ns ∧ Q (.d (.int (ns.idxOf k : Nat))) S
  | .join, x, y, S, Q => view y S fun c => ∃ s zs, x = .d (.str s) ∧ c = .l (zs.map D.str) ∧ (zs.map List.length).sum + zs.length * s.length ≤ 16777216 ∧ Q (.d (.str (joinD s zs))) S
  | .split, x, y, S, Q => ∃ s t, x = .d (.str s) ∧ y = .d (.str t) ∧ t ≠ [] ∧ s.length + 2 ≤ sizeLine ∧ Q (.vl ((splitD s t).map D.str)) S
noncomputable def unD : List Vx → Option (List D)
  | [] => some []
  | .d x :: r => match unD r with
    | some ds => some (x :: ds)
    | none => none
  | _ :: _ => none
theorem unD_map : ∀ {xs : List Vx} {ds : List D}, unD xs = some ds → xs = ds.map Vx.d
  | [], _, e => by cases e; rfl
  | x :: r, ds, e => by
    cases x with
    | d y =>
      unfold unD at e
      split at e
      · rename_i es h; cases e; rw [unD_map h]; rfl
      · cases e
    | _ => cases e
noncomputable def noLoan : Vx → Bool
  | .d _ => true
  | .vl _ => true
  | .vd _ => true
  | _ => false
section
variable (T : Tbl) (cal : Nat → List Vx → Hs → VK2 → Prop)
mutual
noncomputable def wpE : R → Sl → Hs → LK2 → Prop
  | .v i, σ, S, Q => ∃ x, σ[i]? = some (some x) ∧ Q [bor x] S
  | .i n, _, S, Q => Q [.d (.int n)] S
  | .s x, _, S, Q => Q [.d (.str x)] S
  | .b x, _, S, Q => Q [.d (.bl x)] S
  | .n, _, S, Q => Q [.d .non] S
  | .g k, _, S, Q => Q [T.glob k] S
  | .o1 o a, σ, S, Q => wpE a σ S (one1 fun x S1 => op1D o x S1 fun z S2 => Q [z] S2)
  | .o2 o a b, σ, S, Q => wpE a σ S (one1 fun x S1 => wpE b σ S1 (one1 fun y S2 => op2D o x y S2 fun z S3 => Q [z] S3))
  | .nil, _, S, Q => Q [] S
  | .cons a r, σ, S, Q => wpE a σ S (one1 fun x S1 => wpE r σ S1 fun xs S2 => Q (bor x :: xs) S2)
  | .consb a r, σ, S, Q => wpE a σ S (one1 fun x S1 => bx x S1 fun d S2 => wpE r σ S2 fun xs S3 => Q (.d d :: xs) S3)
  | .tup as, σ, S, Q => wpE as σ S fun xs S1 => ∃ ds, unD xs = some ds ∧ ds.length ≤ sizeLine ∧ Q [.d (.tup ds)] S1
  | .lst as, σ, S, Q => wpE as σ S fun xs S1 => ∃ ds, unD xs = some ds ∧ ds.length ≤ sizeLine ∧ Q [.vl ds] S1
  | .dct, _, S, Q => Q [.vd []] S
  | .pr k v r, σ, S, Q => wpE k σ S (one1 fun x S1 => wpE v σ S1 (one1 fun y S2 => bx y S2 fun d S3 => wpE r σ S3 fun xs S4 => Q (x :: .d d :: xs) S4))
  | .dctp ps, σ, S, Q => wpE ps σ S fun xs S1 => ∃ kvs, prsOf xs = some kvs ∧ kvs.length ≤ 15 ∧ Q [.vd (mrgD [] kvs)] S1
  | .dpop o k, σ, S, Q => wpE o σ S (one1 fun x S1 => ∃ a kvs0, x = .d (.ref a) ∧ S1 a = some (.dic kvs0) ∧ wpE k σ S1 (one1 fun y S2 => ∃ kvs ky v, y = .d ky ∧ keyD ky = true ∧ S2 a = some (.dic kvs) ∧ dget kvs ky = some v ∧ Q [.d v] (su S2 a (.dic (ddrop kvs ky)))))
  | .get1 o k, σ, S, Q => wpE o σ S (one1 fun x S1 => view x S1 isK ∧ wpE k σ S1 (one1 fun y S2 => view x S2 fun c => ∃ kvs ky, dicOf c = some kvs ∧ y = .d ky ∧ keyD ky = true ∧ Q [.d ((dget kvs ky).getD .non)] S2))
  | .get2 o k d, σ, S, Q => wpE o σ S (one1 fun x S1 => view x S1 isK ∧ wpE k σ S1 (one1 fun y S2 => wpE d σ S2 (one1 fun z S3 => view x S3 fun c => ∃ kvs ky dz, dicOf c = some kvs ∧ y = .d ky ∧ z = .d dz ∧ keyD ky = true ∧ Q [.d ((dget kvs ky).getD dz)] S3)))
  | .get2N o k d, σ, S, Q => wpE o σ S (one1 fun x S1 => ∃ a kvs0, x = .d (.ref a) ∧ S1 a = some (.dn kvs0) ∧ wpE k σ S1 (one1 fun y S2 => wpE d σ S2 (one1 fun z S3 => ∃ kvs ky dz, y = .d ky ∧ z = .d dz ∧ keyN ky = true ∧ S3 a = some (.dn kvs) ∧ Q [.d ((dget kvs ky).getD dz)] S3)))
  | .and a r, σ, S, Q => wpE a σ S (one1 (tstK fun b S1 => Br b (wpE r σ S1 Q) (Q [.d (.bl false)] S1)))
  | .or a r, σ, S, Q => wpE a σ S (one1 (tstK fun b S1 => Br b (Q [.d (.bl true)] S1) (wpE r σ S1 Q)))
  | .one a, σ, S, Q => wpE a σ S (one1 (tstK fun b S1 => Q [.d (.bl b)] S1))
  | .not a, σ, S, Q => wpE a σ S (one1 (tstK fun b S1 => Q [.d (.bl (!b))] S1))
  | .ife c a b, σ, S, Q => wpE c σ S (one1 (tstK fun k S1 => Br k (wpE a σ S1 (one1 fun x S2 => Q [x] S2)) (wpE b σ S1 (one1 fun x S2 => Q [x] S2))))
  | .chain o o' a b c, σ, S, Q => wpE a σ S (one1 fun x S1 => wpE b σ S1 (one1 fun y S2 => op2D o x y S2 (tstK fun k S3 => Br k
      (wpE c σ S3 (one1 fun z S4 => op2D o' y z S4 (tstK fun k' S5 => Q [.d (.bl k')] S5))) (Q [.d (.bl false)] S3))))
  | .slc a lo hi, σ, S, Q => wpE a σ S (one1 fun x S1 => wpE lo σ S1 (one1 fun l S2 => ∃ l', optI lo l = some l' ∧ wpE hi σ S2 (one1 fun u S3 => ∃ u', optI hi u = some u' ∧ view x S3 fun c => slcC c l' u' S3 fun z S4 => Q [z] S4)))
  | .call f as, σ, S, Q => wpE as σ S fun xs S1 => cal f xs S1 fun r S2 => Q [r] S2
  | .meth f o as, σ, S, Q => wpE o σ S (one1 fun x S1 => ∃ a fs, x = .d (.ref a) ∧ S1 a = some (.ins (T.fcls f) fs) ∧ wpE as σ S1 fun xs S2 => cal f (x :: xs) S2 fun r S3 => Q [r] S3)
  | .make c as, σ, S, Q => wpE as σ S fun xs S1 => ∀ a, S1 a = none → cal (T.cini c) (.d (.ref a) :: xs) (su S1 a (.ins c [])) fun r S2 => r = .d .non ∧ Q [.d (.ref a)] S2
  | .maken c as, σ, S, Q => wpE as σ S fun xs S1 => ∀ a, S1 a = none → cal (T.cini c) (.d (.ref a) :: (xs ++ [.d .non])) (su S1 a (.ins c [])) fun r S2 => r = .d .non ∧ Q [.d (.ref a)] S2
  | .fld o ci k, σ, S, Q => wpE o σ S (one1 fun x S1 => ∃ a fs, x = .d (.ref a) ∧ S1 a = some (.ins ci fs) ∧ ∃ y, fs[k]? = some y ∧ Q [.d y] S1)
  | .hm m o as, σ, S, Q => wpE o σ S (one1 fun x S1 => bx x S1 fun d S1 => ∃ a ds, d = .ref a ∧ S1 a = some (.lst ds) ∧ wpE as σ S1 fun xs S2 => ∃ ob, S2 a = some ob ∧ mutC m ob.cn xs S2 fun c r => ∃ o', c.o = some o' ∧ Q [.d r] (su S2 a o'))
  | .comp tg elt it tst, σ, S, Q => wpI it σ S fun J S1 => compL tg J.ok (fun σ' S' K => wpE elt σ' S' (one1 fun y S2 => bx y S2 K)) (fun σ' S' K => wpE tst σ' S' (one1 (tstK K))) σ J.items [] S1 fun ys S2 => Q [.vl ys] S2
  | .sIt e, σ, S, Q => wpE e σ S (one1 fun x S1 => view x S1 fun c => ∃ ps : List (Int × Int), c = .k (ps.map fun p => (.int p.1, .int p.2)) ∧ ps.length ≤ 1000 ∧ ∀ qs : List (Int × Int), qs.Perm ps → srtP qs → Q [.vl (qs.map pairD)] S1)
  | .rev e, σ, S, Q => wpE e σ S (one1 fun x S1 => view x S1 fun c => ∃ ds, (c = .l ds ∧ Q [.vl ds.reverse] S1) ∨ (c = .t ds ∧ Q [.d (.tup ds.reverse)] S1))
  | .lrg a, σ, S, Q => wpE a σ S (one1 fun x S1 => ∃ n, x = .d (.int n) ∧ n ≤ 1000000 ∧ -(2 ^ 62) < n ∧ Q [.vl (rngD 0 n.toNat)] S1)
  | .bm1 m o a, σ, S, Q => wpE o σ S (one1 fun x S1 => bmTy m x S1 ∧ wpE a σ S1 (one1 fun y S2 => bmD m x y S2 fun z S3 => Q [z] S3))
  | .upper o, σ, S, Q => wpE o σ S (one1 fun x S1 => ∃ s, x = .d (.str s) ∧ s.length ≤ 5000000 ∧ Q [.d (.str (upD s))] S1)
  | .setop k a, σ, S, Q => wpE a σ S (one1 fun x S1 => view x S1 fun c => ∃ ns : List Int, c = .t (ns.map D.int) ∧ ns.length < 64 ∧ ∀ ms : List Int, ms.Nodup → (k = true → ms.Pairwise (· < ·)) → (∀ j, j ∈ ms ↔ j ∈ ns) → Q [if k = true then .vl (ms.map D.int) else .d (.int (ms.length : Nat))] S1)
  | .setP a, σ, S, Q => wpE a σ S (one1 fun x S1 => view x S1 fun c => ∃ ps : List (Int × Int), c = .l (ps.map pairD) ∧ ((∀ p ∈ ps, (0 ≤ p.1 ∧ p.1 < 64) ∧ 0 ≤ p.2 ∧ p.2 < 64) ∧ ∀ qs : List (Int × Int), qs.Nodup → (∀ q ∈ qs, q ∈ ps) → qs.length < 63) ∧
      ∀ qs : List (Int × Int), qs.Nodup → srtP qs → (∀ q, q ∈ qs ↔ q ∈ ps) → Q [.vl (qs.map pairD)] S1)
  | .slr a hi k, σ, S, Q => wpE a σ S (one1 fun x S1 => wpE hi σ S1 (one1 fun y S2 => ∃ i : Nat, y = .d (.int (i : Nat)) ∧ wpE k σ S2 (one1 fun z S3 => z = .d (.int (-1)) ∧ view x S3 fun c => ∃ ds, c = .l ds ∧ i < ds.length ∧ Q [.vl ((ds.drop (i + 1)).reverse)] S3)))
  | .slen a, σ, S, Q => wpE a σ S (one1 fun x S1 => view x S1 fun c => ∃ ns : List Int, c = .l (ns.map D.int) ∧ ns.length ≤ 4000 ∧ ∀ ms : List Int, ms.Nodup → (∀ j, j ∈ ms ↔ j ∈ ns) → Q [.d (.int (ms.length : Nat))] S1)
  | .dctn, _, S, Q => ∀ a, S a = none → Q [.d (.ref a)] (su S a (.dn []))
  | .dctn1 k v, σ, S, Q => wpE k σ S (one1 fun x S1 => wpE v σ S1 (one1 fun y S2 => bx y S2 fun d S3 => ∃ kd, x = .d kd ∧ keyN kd = true ∧ ∀ a, S3 a = none → Q [.d (.ref a)] (su S3 a (.dn [(kd, d)]))))
  | .lockV e, σ, S, Q => wpE e σ S (one1 fun x S1 => ∃ a kvs, x = .d (.ref a) ∧ S1 a = some (.dn kvs) ∧ ∀ h ns, Q [.d (.ref a)] (su S1 a (.fdn kvs h ns)))
  | .kmem neg k a, σ, S, Q => wpE a σ S (one1 fun x S1 => ∃ s, x = .d (.str s) ∧ Q [.d (.bl (bif neg then !((T.kd k).lookup s).isSome else ((T.kd k).lookup s).isSome))] S1)
  | .kidx k a, σ, S, Q => wpE a σ S (one1 fun x S1 => ∃ s v, x = .d (.str s) ∧ (T.kd k).lookup s = some v ∧ Q [.d v] S1)
  | .lend i e, σ, S, Q => ∃ a ds, σ[i]? = some (some (.d (.ref a))) ∧ S a = some (.lst ds) ∧ wpE e (σ.set i (some (.bw ds))) (mn a S) fun xs S' => xs.all noLoan = true ∧ xs.length = 1 ∧ (S' a = none → Q xs (su S' a (.lst ds)))
  | .lockEN e, σ, S, Q => ∃ a kvs, S a = some (.dn kvs) ∧ ∀ h ns, wpE e σ (su S a (.fdn kvs h ns)) fun xs S' => S' a = some (.fdn kvs h ns) ∧ Q xs (su S' a (.dn kvs))
  | .stp a k, σ, S, Q => wpE a σ S (one1 fun x S1 => wpE k σ S1 (one1 fun y S2 => ∃ z, y = .d (.int z) ∧ (z = 1 ∨ z = -1) ∧ view x S2 fun c => ∃ ds, c = .l ds ∧ Q [.vl (if z = 1 then ds else ds.reverse)] S2))
  | .lockE e, σ, S, Q => ∃ a kvs, S a = some (.dic kvs) ∧ ∀ h, wpE e σ (su S a (.fdc kvs h)) fun xs S' => S' a = some (.fdc kvs h) ∧ Q xs (su S' a (.dic kvs))
  | _, _, _, _ => False
noncomputable def wpI : R → Sl → Hs → (It2 → Hs → Prop) → Prop
  | .itv i, σ, S, K => ∃ x, σ[i]? = some (some x) ∧ srcX true x S K
  | .ite e, σ, S, K => wpE e σ S (one1 fun x S1 => srcX false x S1 K)
  | .ichs e, σ, S, K => wpE e σ S (one1 fun x S1 => ∃ s : List Nat, x = .d (.str s) ∧ K ⟨s.map fun c => .str [c], fun _ _ => True, false⟩ S1)
  | .rng a, σ, S, K => wpE a σ S (one1 fun x S1 => ∃ n, x = .d (.int n) ∧ n < 2 ^ 62 ∧ -(2 ^ 62) < n ∧ K ⟨rngD 0 n.toNat, fun _ _ => True, false⟩ S1)
  | .rng2 a b, σ, S, K => wpE a σ S (one1 fun x S1 => wpE b σ S1 (one1 fun y S2 => ∃ m n, x = .d (.int m) ∧ y = .d (.int n) ∧ (m < 2 ^ 62 ∧ -(2 ^ 62) < m ∧ n < 2 ^ 62 ∧ -(2 ^ 62) < n) ∧ K ⟨rngD m (n - m).toNat, fun _ _ => True, false⟩ S2))
  | .rng3 a b s, σ, S, K => wpE a σ S (one1 fun x S1 => wpE b σ S1 (one1 fun y S2 => wpE s σ S2 (one1 fun z S3 => ∃ i j k n, x = .d (.int i) ∧ y = .d (.int j) ∧ z = .d (.int k) ∧ RgC i j k n ∧ K ⟨rngC i k n, fun _ _ => True, false⟩ S3)))
  | .enu a, σ, S, K => wpI a σ S fun J S1 => K ⟨enumD 0 J.items, J.ok, false⟩ S1
  | .zip a b, σ, S, K => wpI a σ S fun J S1 => wpI b σ S1 fun J' S2 => J.tu = J'.tu ∧ J.ok σ S2 ∧ K ⟨zipD J.items J'.items, fun σ' S' => J.ok σ' S' ∧ J'.ok σ' S', false⟩ S2
  | .itk e, σ, S, K => wpE e σ S (one1 fun x S1 => ∃ a kvs h, x = .d (.ref a) ∧ S1 a = some (.fdc kvs h) ∧ K ⟨kvs.map Prod.fst, fun _ S' => S' a = some (.fdc kvs h), false⟩ S1)
  | .enuk e, σ, S, K => wpE e σ S (one1 fun x S1 => ∃ a kvs h, x = .d (.ref a) ∧ S1 a = some (.fdc kvs h) ∧ K ⟨enumD 0 (kvs.map Prod.fst), fun _ S' => S' a = some (.fdc kvs h), false⟩ S1)
  | .itkn e, σ, S, K => wpE e σ S (one1 fun x S1 => ∃ a kvs h ns, x = .d (.ref a) ∧ S1 a = some (.fdn kvs h ns) ∧ K ⟨kvs.map Prod.fst, fun _ S' => S' a = some (.fdn kvs h ns), false⟩ S1)
  | .itms e, σ, S, K => wpE e σ S (one1 fun x S1 => ∃ a kvs h, x = .d (.ref a) ∧ S1 a = some (.fdc kvs h) ∧ K ⟨kvs.map fun kv => .tup [kv.1, kv.2], fun _ S' => S' a = some (.fdc kvs h), false⟩ S1)
  | _, _, _, _ => False
end
end
noncomputable abbrev SK2 := Sl → Hs → Prop
noncomputable def stor (x : Vx) (P : Prop) : Prop := match x with
  | .bw _ => False
  | .bd _ => False
  | .fz _ => False
  | _ => P
noncomputable def setF (fs : List D) (k : Nat) (x : D) : List D := if k = fs.length then fs ++ [x] else fs.set k x
noncomputable def ownC : Vx → (Cn → Prop) → Prop
  | .vl ds, K => K (.l ds)
  | .vd kvs, K => K (.k kvs)
  | _, _ => False
noncomputable def dstS : Option Nat → D → Sl → Sl
  | none, _, σ => σ
  | some j, x, σ => σ.set j (some (.d x))
noncomputable def forL (tg : Tg) (ok : SK2) (body : SK2 → SK2) (nx : SK2) : List D → SK2
  | [], σ, S => ok σ S ∧ nx σ S
  | x :: xs, σ, S => ok σ S ∧ bindT tg x σ fun σ' => body (forL tg ok body nx xs) σ' S
noncomputable def whlN (tst : Sl → Hs → (Bool → Hs → Prop) → Prop) (body : SK2 → SK2) (nx : SK2) : Nat → SK2
  | 0, _, _ => False
  | n + 1, σ, S => tst σ S fun b S1 => Br b (body (whlN tst body nx n) σ S1) (nx σ S1)
noncomputable def lendX : Vx → Vx
  | .vl ds => .bw ds
  | x => x
noncomputable def dem : R → Sl → Sl
  | .itv i, σ => match σ[i]? with
    | some (some x) => σ.set i (some (lendX x))
    | _ => σ
  | .enu a, σ => dem a σ
  | .zip a b, σ => dem b (dem a σ)
  | _, σ => σ
section
variable (T : Tbl) (cal : Nat → List Vx → Hs → VK2 → Prop)
noncomputable def wpS : R → Sl → Hs → (nx : SK2) → (rt : VK2) → (bk ct : SK2) → Prop
  | .seq a r, σ, S, nx, rt, bk, ct => wpS a σ S (fun σ' S' => wpS r σ' S' nx rt bk ct) rt bk ct
  | .skip, σ, S, nx, rt, bk, ct => nx σ S
  | .expr e, σ, S, nx, rt, bk, ct => wpE T cal e σ S (one1 fun _ S1 => nx σ S1)
  | .set i e, σ, S, nx, rt, bk, ct => wpE T cal e σ S (one1 fun x S1 => stor x (nx (σ.set i (some x)) S1))
  | .setT is e, σ, S, nx, rt, bk, ct => wpE T cal e σ S (one1 fun x S1 => view x S1 fun c => ∃ ds, seqOf c = some ds ∧ ∃ σ', bindN is ds σ = some σ' ∧ nx σ' S1)
  | .setNAN i o ci k j e, σ, S, nx, rt, bk, ct => wpE T cal e σ S (one1 fun x S1 => view x S1 fun c => ∃ d0 d1 d2, seqOf c = some [d0, d1, d2] ∧ wpE T cal o (σ.set i (some (.d d0))) S1 (one1 fun y S2 =>
      ∃ a fs, y = .d (.ref a) ∧ S2 a = some (.ins ci fs) ∧ k ≤ fs.length ∧ nx ((σ.set i (some (.d d0))).set j (some (.d d2))) (su S2 a (.ins ci (setF fs k d1)))))
  | .seti o k e, σ, S, nx, rt, bk, ct => wpE T cal e σ S (one1 fun y S1 => bx y S1 fun v S2 => wpE T cal o σ S2 (one1 fun x S3 => wpE T cal k σ S3 (one1 fun z S4 =>
      ∃ a ob kd, x = .d (.ref a) ∧ S4 a = some ob ∧ z = .d kd ∧ mutC .setI ob.cn [.d kd, .d v] S4 fun c _ => ∃ o', c.o = some o' ∧ nx σ (su S4 a o'))))
  | .slcset o e, σ, S, nx, rt, bk, ct => wpE T cal e σ S (one1 fun y S1 => ∃ b, y = .d (.ref b) ∧ wpE T cal o σ S1 (one1 fun x S2 => ∃ a xs ys, x = .d (.ref a) ∧ S2 a = some (.lst xs) ∧ S2 b = some (.lst ys) ∧ a ≠ b ∧ xs.length + ys.length ≤ sizeLine ∧ nx σ (su S2 a (.lst ys))))
  | .oseti i k e, σ, S, nx, rt, bk, ct => wpE T cal e σ S (one1 fun y S1 => bx y S1 fun v S2 => ∃ x, σ[i]? = some (some x) ∧ wpE T cal k σ S2 (one1 fun z S3 =>
      ∃ kd, z = .d kd ∧ ownC x fun c => mutC .setI c [.d kd, .d v] S3 fun c' _ => nx (σ.set i (some c'.v)) S3))
  | .fset o ci k e, σ, S, nx, rt, bk, ct => wpE T cal e σ S (one1 fun y S1 => bx y S1 fun v S2 => wpE T cal o σ S2 (one1 fun x S3 =>
      ∃ a fs, x = .d (.ref a) ∧ S3 a = some (.ins ci fs) ∧ k ≤ fs.length ∧ nx σ (su S3 a (.ins ci (setF fs k v)))))
  | .faug o ci k e, σ, S, nx, rt, bk, ct => wpE T cal o σ S (one1 fun x S1 => ∃ a fs i, x = .d (.ref a) ∧ S1 a = some (.ins ci fs) ∧ fs[k]? = some (.int i) ∧ wpE T cal e σ S1 (one1 fun y S2 =>
      ∃ j fs', y = .d (.int j) ∧ S2 a = some (.ins ci fs') ∧ k < fs'.length ∧ nx σ (su S2 a (.ins ci (setF fs' k (.int (i + j)))))))
  | .iff c a r, σ, S, nx, rt, bk, ct => wpE T cal c σ S (one1 (tstK fun b S1 => Br b (wpS a σ S1 nx rt bk ct) (wpS r σ S1 nx rt bk ct)))
  | .whl c a, σ, S, nx, rt, bk, ct => ∃ n, whlN (fun σ' S' K => wpE T cal c σ' S' (one1 (tstK K))) (fun k σ' S' => wpS a σ' S' k rt nx k) nx n σ S
  | .for tg it a, σ, S, nx, rt, bk, ct => wpI T cal it σ S fun J S1 => forL tg J.ok (fun k σ' S' => wpS a σ' S' k rt nx k) nx J.items (dem it σ) S1
  | .ret e, σ, S, nx, rt, bk, ct => wpE T cal e σ S (one1 fun x S1 => stor x (rt x S1))
  | .retn, σ, S, nx, rt, bk, ct => rt (.d .non) S
  | .retv i, σ, S, nx, rt, bk, ct => ∃ x, σ[i]? = some (some x) ∧ stor x (rt x S)
  | .brk, σ, S, nx, rt, bk, ct => bk σ S
  | .cnt, σ, S, nx, rt, bk, ct => ct σ S
  | .box i, σ, S, nx, rt, bk, ct => ∃ x, σ[i]? = some (some x) ∧ bx x S fun d S1 => nx (σ.set i (some (.d d))) S1
  | .om m i as dst, σ, S, nx, rt, bk, ct => ∃ ds, σ[i]? = some (some (.vl ds)) ∧ wpE T cal as σ S fun xs S1 => mutC m (.l ds) xs S1 fun c' r => nx (dstS dst r (σ.set i (some c'.v))) S1
  | .tryp st, σ, S, nx, rt, bk, ct => wpS st σ S nx rt bk ct
  | .lockN st, σ, S, nx, rt, bk, ct => ∃ a kvs, S a = some (.dn kvs) ∧ ∀ h ns, wpS st σ (su S a (.fdn kvs h ns)) (fun σ' S' => S' a = some (.fdn kvs h ns) ∧ nx σ' (su S' a (.dn kvs))) (fun x S' => S' a = some (.fdn kvs h ns) ∧ rt x (su S' a (.dn kvs)))
      (fun σ' S' => S' a = some (.fdn kvs h ns) ∧ bk σ' (su S' a (.dn kvs))) (fun σ' S' => S' a = some (.fdn kvs h ns) ∧ ct σ' (su S' a (.dn kvs)))
  | .lock st, σ, S, nx, rt, bk, ct => ∃ a kvs, S a = some (.dic kvs) ∧ ∀ h, wpS st σ (su S a (.fdc kvs h)) (fun σ' S' => S' a = some (.fdc kvs h) ∧ nx σ' (su S' a (.dic kvs))) (fun x S' => S' a = some (.fdc kvs h) ∧ rt x (su S' a (.dic kvs)))
      (fun σ' S' => S' a = some (.fdc kvs h) ∧ bk σ' (su S' a (.dic kvs))) (fun σ' S' => S' a = some (.fdc kvs h) ∧ ct σ' (su S' a (.dic kvs)))
  | _, _, _, _, _, _, _ => False
end
noncomputable def own : Vx → Bool
  | .vl _ => true
  | .vd _ => true
  | _ => false
noncomputable def startS (nl : Nat) (xs : List Vx) : Sl := xs.map some ++ List.replicate (nl - xs.length) none
noncomputable def cal (T : Tbl) : Nat → Nat → List Vx → Hs → VK2 → Prop
  | 0, _, _, _, _ => False
  | n + 1, f, xs, S, Q => ∃ F, T.fn f = some F ∧ xs.length = F.np ∧ (xs.all fun x => !(own x)) = true ∧ wpS T (cal T n) F.body (startS F.nl xs) S (fun _ S' => Q (.d .non) S') Q (fun _ _ => False) (fun _ _ => False)
section
variable {S : Hs} {K K' : Cn → Prop} {Q Q' : VK2}
theorem view_mono {x : Vx} (h : ∀ c, K c → K' c) (w : view x S K) : view x S K' := by
  cases x with
  | d y =>
    cases y with
    | ref a => obtain ⟨o, e, q⟩ := w; exact ⟨o, e, h _ q⟩
    | str s => exact h _ w
    | tup ds => exact h _ w
    | xt ds => exact h _ w
    | non => exact w
    | bl b => exact w
    | int i => exact w
  | vl _ => exact h _ w
  | bw _ => exact h _ w
  | fz _ => exact h _ w
  | vd _ => exact h _ w
  | bd _ => exact h _ w
  | st _ => exact h _ w
theorem bx_mono {x : Vx} {K K' : D → Hs → Prop} (h : ∀ d S, K d S → K' d S) (w : bx x S K) : bx x S K' := by
  cases x with
  | d y => exact h _ _ w
  | vl ds => exact fun a ha => h _ _ (w a ha)
  | vd ds => exact fun a ha => h _ _ (w a ha)
  | bw _ => exact w
  | fz _ => exact w
  | bd _ => exact w
  | st _ => exact w
theorem addC_mono {a b : Cn} (h : ∀ x S, Q x S → Q' x S) (w : addC a b S Q) : addC a b S Q' := by
  cases a <;> cases b <;> first | exact ⟨w.1, h _ _ w.2⟩ | exact w
theorem addD_mono {x y : Vx} (h : ∀ x S, Q x S → Q' x S) (w : addD x y S Q) : addD x y S Q' := by
  unfold addD at w ⊢
  split at w
  · exact h _ _ w
  · exact ⟨w.1, h _ _ w.2⟩
  · exact ⟨w.1, h _ _ w.2⟩
  · exact view_mono (fun c => view_mono fun c' => addC_mono h) w
theorem mulC_mono {a : Cn} {k : Int} (h : ∀ x S, Q x S → Q' x S) (w : mulC a k S Q) : mulC a k S Q' := by
  cases a <;> first | exact ⟨w.1, w.2.1, h _ _ w.2.2⟩ | exact w
theorem mulD_mono {x y : Vx} (h : ∀ x S, Q x S → Q' x S) (w : mulD x y S Q) : mulD x y S Q' := by
  unfold mulD at w ⊢
  split at w
  · exact ⟨w.1, h _ _ w.2⟩
  · exact ⟨w.1, h _ _ w.2⟩
  · exact ⟨w.1, view_mono (fun c => mulC_mono h) w.2⟩
  · exact w.elim
theorem intD_mono {f g : Int → Int → VK2 → Hs → Prop} {x y : Vx} (h : ∀ i j, f i j Q S → g i j Q' S) (w : intD f x y S Q) : intD g x y S Q' := by
  unfold intD at w ⊢
  split at w
  · exact h _ _ w
  · exact w.elim
theorem idxC_mono {c : Cn} {k : D} (h : ∀ x S, Q x S → Q' x S) (w : idxC c k S Q) : idxC c k S Q' := by
  unfold idxC at w ⊢
  split at w
  · obtain ⟨y, e, q⟩ := w; exact ⟨y, e, h _ _ q⟩
  · obtain ⟨y, e, q⟩ := w; exact ⟨y, e, h _ _ q⟩
  · obtain ⟨y, e, q⟩ := w; exact ⟨y, e, h _ _ q⟩
  · obtain ⟨z, y, e, q⟩ := w; exact ⟨z, y, e, h _ _ q⟩
  · obtain ⟨z, y, e, q⟩ := w; exact ⟨z, y, e, h _ _ q⟩
  · obtain ⟨z, y, e, q⟩ := w; exact ⟨z, y, e, h _ _ q⟩
  · obtain ⟨z, y, e, q⟩ := w; exact ⟨z, y, e, h _ _ q⟩
  · obtain ⟨z, y, e, q⟩ := w; exact ⟨z, y, e, h _ _ q⟩
  · exact w.elim
theorem idxD_mono {x y : Vx} (h : ∀ x S, Q x S → Q' x S) (w : idxD x y S Q) : idxD x y S Q' := by
  cases y with
  | d k => exact view_mono (fun c => idxC_mono h) w
  | _ => exact w
theorem eqC_mono {a b : Cn} {K K' : Bool → Prop} (h : ∀ b, K b → K' b) (w : eqC a b K) : eqC a b K' := by
  cases a <;> cases b <;> first | exact ⟨w.1, h _ w.2⟩ | exact w
theorem eqD_mono {x y : Vx} {K K' : Bool → Prop} (h : ∀ b, K b → K' b) (w : eqD x y S K) : eqD x y S K' := by
  unfold eqD at w ⊢
  split at w
  · exact view_mono (fun c => view_mono fun c' => eqC_mono h) w
  · exact w.elim
  · exact ⟨w.1, w.2.1, h _ w.2.2⟩
  · exact view_mono (fun c => view_mono fun c' => eqC_mono h) w
theorem eqH_mono {x y : Vx} {K K' : Bool → Prop} (h : ∀ b, K b → K' b) (w : eqH x y S K) : eqH x y S K' := let ⟨p, q, h1, h2, h3, h4, k⟩ := w; ⟨p, q, h1, h2, h3, h4, h _ k⟩
theorem memC_mono {c : Cn} {x : D} {K K' : Bool → Prop} (h : ∀ b, K b → K' b) (w : memC c x K) : memC c x K' := by
  unfold memC at w ⊢
  split at w
  · exact ⟨w.1, w.2.1, h _ w.2.2⟩
  · exact ⟨w.1, w.2.1, h _ w.2.2⟩
  · exact ⟨w.1, h _ w.2⟩
  · exact ⟨w.1, h _ w.2⟩
  · exact ⟨w.1, h _ w.2⟩
  · exact ⟨w.1, h _ w.2⟩
  · exact h _ w
  · exact w.elim
theorem memD_mono {x y : Vx} {K K' : Bool → Prop} (h : ∀ b, K b → K' b) (w : memD x y S K) : memD x y S K' := by
  cases x with
  | d k => exact view_mono (fun c => memC_mono h) w
  | _ => exact w
theorem memR_mono {x y : Vx} {K K' : Bool → Prop} (h : ∀ b, K b → K' b) (w : memR x y S K) : memR x y S K' := let ⟨p, q, ps, h1, h2, h3, h4, h5, k⟩ := w; ⟨p, q, ps, h1, h2, h3, h4, h5, h _ k⟩
theorem memH_mono {x y : Vx} {K K' : Bool → Prop} (h : ∀ b, K b → K' b) (w : memH x y S K) : memH x y S K' := by
  cases x with
  | d k => exact view_mono (fun c w => by cases c <;> first | exact ⟨w.1, w.2.1, h _ w.2.2⟩ | exact w) w
  | _ => exact w
theorem op2D_mono {o : O2} {x y : Vx} (h : ∀ x S, Q x S → Q' x S) (w : op2D o x y S Q) : op2D o x y S Q' := by
  cases o with
  | add => exact addD_mono h w
  | mul => exact mulD_mono h w
  | idx => exact idxD_mono h w
  | eq => exact eqD_mono (fun b => h _ _) w
  | ne => exact eqD_mono (fun b => h _ _) w
  | eqh => exact eqH_mono (K := fun b => Q (.d (.bl b)) S) (K' := fun b => Q' (.d (.bl b)) S) (fun b => h _ _) w
  | neh => exact eqH_mono (K := fun b => Q (.d (.bl (!b))) S) (K' := fun b => Q' (.d (.bl (!b))) S) (fun b => h _ _) w
  | is => obtain ⟨b, e, q⟩ := w; exact ⟨b, e, h _ _ q⟩
  | isnt => obtain ⟨b, e, q⟩ := w; exact ⟨b, e, h _ _ q⟩
  | mem => exact memD_mono (fun b => h _ _) w
  | nmem => exact memD_mono (fun b => h _ _) w
  | memr => exact memR_mono (K := fun b => Q (.d (.bl b)) S) (K' := fun b => Q' (.d (.bl b)) S) (fun b => h _ _) w
  | nmemr => exact memR_mono (K := fun b => Q (.d (.bl (!b))) S) (K' := fun b => Q' (.d (.bl (!b))) S) (fun b => h _ _) w
  | memh => exact memH_mono (K := fun b => Q (.d (.bl b)) S) (K' := fun b => Q' (.d (.bl b)) S) (fun b => h _ _) w
  | nmemh => exact memH_mono (K := fun b => Q (.d (.bl (!b))) S) (K' := fun b => Q' (.d (.bl (!b))) S) (fun b => h _ _) w
  | fdiv => exact intD_mono (fun i j q => ⟨q.1, h _ _ q.2⟩) w
  | mod => exact intD_mono (fun i j q => ⟨q.1, h _ _ q.2⟩) w
  | pow => exact intD_mono (fun i j q => ⟨q.1, h _ _ q.2⟩) w
  | _ => exact intD_mono (fun i j q => h _ _ q) w
theorem op1D_mono {o : O1} {x : Vx} (h : ∀ x S, Q x S → Q' x S) (w : op1D o x S Q) : op1D o x S Q' := by
  cases o with
  | neg => revert w; show negD _ _ _ → negD _ _ _; unfold negD; split <;> first | exact h _ _ | exact id
  | len => exact view_mono (fun c ⟨n, e, q⟩ => ⟨n, e, h _ _ q⟩) w
  | int => revert w; show toIntD _ _ _ → toIntD _ _ _; unfold toIntD; split <;> first | exact h _ _ | exact fun ⟨n, e, z⟩ => ⟨n, e, h _ _ z⟩ | exact id
  | str => revert w; show strD _ _ _ → strD _ _ _; unfold strD; split <;> first | exact fun z => ⟨z.1, h _ _ z.2⟩ | exact fun z => ⟨z.1, fun t ht => h _ _ (z.2 t ht)⟩ | exact id
  | list => exact view_mono (fun c ⟨n, e, q⟩ => ⟨n, e, h _ _ q⟩) w
  | tuple => exact view_mono (fun c ⟨n, e, q⟩ => ⟨n, e, h _ _ q⟩) w
  | tupleX => exact view_mono (fun c ⟨n, e, q⟩ => ⟨n, e, h _ _ q⟩) w
  | sorted => exact view_mono (fun c ⟨n, e, q⟩ => ⟨n, e, fun z p p' => h _ _ (q z p p')⟩) w
  | dict => exact view_mono (fun c ⟨n, e, q⟩ => ⟨n, e, h _ _ q⟩) w
  | sortedP => exact view_mono (fun c ⟨n, e, q⟩ => ⟨n, e, fun z p p' => h _ _ (q z p p')⟩) w
  | dictP => exact view_mono (fun c ⟨n, e, q⟩ => ⟨n, e, h _ _ q⟩) w
  | sortedN => exact view_mono (fun c ⟨n, e, e', q⟩ => ⟨n, e, e', fun z p p' => h _ _ (q z p p')⟩) w
  | sortedDn => exact view_mono (fun c ⟨m, n, e, e', e'', q⟩ => ⟨m, n, e, e', e'', fun z p p' => h _ _ (q z p p')⟩) w
  | listK => exact view_mono (fun c ⟨n, e, q⟩ => ⟨n, e, h _ _ q⟩) w
  | listDn => exact view_mono (fun c ⟨n, e, q⟩ => ⟨n, e, h _ _ q⟩) w
  | lenDn => exact view_mono (fun c ⟨n, e, q⟩ => ⟨n, e, h _ _ q⟩) w
  | sum => exact view_mono (fun c ⟨n, e, q⟩ => ⟨n, e, h _ _ q⟩) w
  | maxl => exact view_mono (fun c ⟨n, e, z, q⟩ => ⟨n, e, z, fun m p p' => h _ _ (q m p p')⟩) w
  | minl => exact view_mono (fun c ⟨n, e, z, q⟩ => ⟨n, e, z, fun m p p' => h _ _ (q m p p')⟩) w
  | all => exact view_mono (fun c ⟨n, m, e, e', q⟩ => ⟨n, m, e, e', h _ _ q⟩) w
  | any => exact view_mono (fun c ⟨n, m, e, e', q⟩ => ⟨n, m, e, e', h _ _ q⟩) w
  | isi t => revert w; show isiD _ _ _ _ → isiD _ _ _ _; unfold isiD; split <;> first | exact fun ⟨b, e, q⟩ => ⟨b, e, h _ _ q⟩ | exact h _ _ | exact id
theorem mutC_mono {m : M} {c : Cn} {xs : List Vx} {K K' : Cn → D → Prop} (h : ∀ c r, K c r → K' c r) (w : mutC m c xs S K) : mutC m c xs S K' := by
  unfold mutC at w ⊢
  split at w
  · exact ⟨w.1, h _ _ w.2⟩
  · obtain ⟨y, e, q⟩ := w; exact ⟨y, e, h _ _ q⟩
  · obtain ⟨y, e, q⟩ := w; exact ⟨y, e, h _ _ q⟩
  · exact ⟨w.1, h _ _ w.2⟩
  · exact ⟨w.1, h _ _ w.2⟩
  · exact ⟨w.1, w.2.1, h _ _ w.2.2⟩
  · exact ⟨w.1, w.2.1, h _ _ w.2.2⟩
  · exact ⟨w.1, w.2.1, h _ _ w.2.2⟩
  · exact view_mono (fun c ⟨n, e, z, q⟩ => ⟨n, e, z, h _ _ q⟩) w
  · exact h _ _ w
  · obtain ⟨ns, j, e1, e2, e3, q⟩ := w; exact ⟨ns, j, e1, e2, e3, h _ _ q⟩
  · exact w.elim
theorem slcC_mono {c : Cn} {a b : Option Int} (h : ∀ x S, Q x S → Q' x S) (w : slcC c a b S Q) : slcC c a b S Q' := by
  cases c <;> first | exact h _ _ w | exact ⟨w.1, h _ _ w.2⟩ | exact w
theorem bmD_mono {m : BM} {x y : Vx} {Q Q' : VK2} (h : ∀ x S, Q x S → Q' x S) (w : bmD m x y S Q) : bmD m x y S Q' := by
  cases m with
  | index => exact view_mono (fun c ⟨ds, yd, j, z, e1, e2, e3, e4, e5, e6, e7, q⟩ => ⟨ds, yd, j, z, e1, e2, e3, e4, e5, e6, e7, h _ _ q⟩) w
  | count => exact view_mono (fun c ⟨ns, k, e1, e2, q⟩ => ⟨ns, k, e1, e2, h _ _ q⟩) w
  | join => exact view_mono (fun c ⟨s, zs, e1, e2, e3, q⟩ => ⟨s, zs, e1, e2, e3, h _ _ q⟩) w
  | split => obtain ⟨s, t, e1, e2, e3, e4, q⟩ := w; exact ⟨s, t, e1, e2, e3, e4, h _ _ q⟩
  | indexT => obtain ⟨ns, k, e1, e2, e3, q⟩ := w; exact ⟨ns, k, e1, e2, e3, h _ _ q⟩
theorem one1_mono {xs : List Vx} (h : ∀ x S, Q x S → Q' x S) (w : one1 Q xs S) : one1 Q' xs S := by
  unfold one1 at w ⊢
  split at w
  · exact h _ _ w
  · exact w.elim
theorem tstK_mono {x : Vx} {K K' : Bool → Hs → Prop} (h : ∀ b S, K b S → K' b S) (w : tstK K x S) : tstK K' x S := by
  unfold tstK at w ⊢
  split at w
  · exact h _ _ w
  · exact w.elim
theorem Br.mono {b : Bool} {A A' B B' : Prop} (h : A → A') (h' : B → B') (w : Br b A B) : Br b A' B' := ⟨fun e => h (w.t e), fun e => h' (w.f e)⟩
theorem bindT_mono {tg : Tg} {x : D} {σ : Sl} {K K' : Sl → Prop} (h : ∀ σ, K σ → K' σ) (w : bindT tg x σ K) : bindT tg x σ K' := by
  unfold bindT at w ⊢
  split at w
  · exact h _ w
  · obtain ⟨σ', e, q⟩ := w; exact ⟨σ', e, h _ q⟩
  · exact w.elim
theorem ownC_mono {x : Vx} (h : ∀ c, K c → K' c) (w : ownC x K) : ownC x K' := by
  cases x <;> first | exact h _ w | exact w
theorem stor_mono {x : Vx} {P P' : Prop} (h : P → P') (w : stor x P) : stor x P' := by
  cases x <;> first | exact h w | exact w
theorem compL_mono {tg : Tg} {ok : Sl → Hs → Prop} {e e' : Sl → Hs → (D → Hs → Prop) → Prop} {t t' : Sl → Hs → (Bool → Hs → Prop) → Prop} {σ : Sl} {K K' : List D → Hs → Prop}
    (he : ∀ σ S K K', (∀ d S, K d S → K' d S) → e σ S K → e' σ S K') (ht : ∀ σ S K K', (∀ d S, K d S → K' d S) → t σ S K → t' σ S K') (h : ∀ a S, K a S → K' a S) :
    ∀ (xs acc : List D) (S : Hs), compL tg ok e t σ xs acc S K → compL tg ok e' t' σ xs acc S K'
  | [], _, _, w => ⟨w.1, h _ _ w.2⟩
  | x :: xs, acc, S, w => ⟨w.1, bindT_mono (fun σ' q => ht _ _ _ _ (fun b S1 r => Br.mono (he _ _ _ _ fun y S2 z => ⟨z.1, compL_mono he ht h xs _ _ z.2⟩) (compL_mono he ht h xs _ _) r) q) w.2⟩
end
theorem srcX_mono {l : Bool} {x : Vx} {S : Hs} {K K' : It2 → Hs → Prop} (h : ∀ J S, K J S → K' J S) (w : srcX l x S K) : srcX l x S K' := by
  unfold srcX at w ⊢
  split at w
  · exact h _ _ w
  · exact h _ _ w
  · obtain ⟨ds, e, q⟩ := w; exact ⟨ds, e, h _ _ q⟩
  · exact h _ _ w
  · exact h _ _ w
  · exact h _ _ w
  · exact w.elim
noncomputable def CalMono (c : Nat → List Vx → Hs → VK2 → Prop) : Prop := ∀ f xs S (Q Q' : VK2), (∀ x S, Q x S → Q' x S) → c f xs S Q → c f xs S Q'
section
variable {T : Tbl} {c : Nat → List Vx → Hs → VK2 → Prop}
theorem wp_mono (hc : CalMono c) (r : R) : (∀ σ S (Q Q' : LK2), (∀ x S, Q x S → Q' x S) → wpE T c r σ S Q → wpE T c r σ S Q') ∧ (∀ σ S (K K' : It2 → Hs → Prop), (∀ x S, K x S → K' x S) → wpI T c r σ S K → wpI T c r σ S K') := by
  induction r with
  | v i => exact ⟨fun σ S Q Q' h ⟨x, e, q⟩ => ⟨x, e, h _ _ q⟩, fun σ S K K' h w => w⟩
  | i n => exact ⟨fun σ S Q Q' h w => h _ _ w, fun σ S K K' h w => w⟩
  | s n => exact ⟨fun σ S Q Q' h w => h _ _ w, fun σ S K K' h w => w⟩
  | b n => exact ⟨fun σ S Q Q' h w => h _ _ w, fun σ S K K' h w => w⟩
  | n => exact ⟨fun σ S Q Q' h w => h _ _ w, fun σ S K K' h w => w⟩
  | g k => exact ⟨fun σ S Q Q' h w => h _ _ w, fun σ S K K' h w => w⟩
  | nil => exact ⟨fun σ S Q Q' h w => h _ _ w, fun σ S K K' h w => w⟩
  | dct => exact ⟨fun σ S Q Q' h w => h _ _ w, fun σ S K K' h w => w⟩
  | o1 o a ih => exact ⟨fun σ S Q Q' h w => ih.1 _ _ _ _ (fun xs S1 => one1_mono fun x S => op1D_mono fun z S => h _ _) w, fun σ S K K' h w => w⟩
  | o2 o a b iha ihb => exact ⟨fun σ S Q Q' h w => iha.1 _ _ _ _ (fun xs S1 => one1_mono fun x S => ihb.1 _ _ _ _ (fun ys S2 => one1_mono fun y S => op2D_mono fun z S => h _ _)) w, fun σ S K K' h w => w⟩
  | cons a b iha ihb => exact ⟨fun σ S Q Q' h w => iha.1 _ _ _ _ (fun xs S1 => one1_mono fun x S => ihb.1 _ _ _ _ (fun ys S2 => h _ _)) w, fun σ S K K' h w => w⟩
  | consb a b iha ihb => exact ⟨fun σ S Q Q' h w => iha.1 _ _ _ _ (fun xs S1 => one1_mono fun x S => bx_mono fun d S => ihb.1 _ _ _ _ (fun ys S2 => h _ _)) w, fun σ S K K' h w => w⟩
  | tup as ih => exact ⟨fun σ S Q Q' h w => ih.1 _ _ _ _ (fun xs S1 ⟨ds, e, z, q⟩ => ⟨ds, e, z, h _ _ q⟩) w, fun σ S K K' h w => w⟩
  | lst as ih => exact ⟨fun σ S Q Q' h w => ih.1 _ _ _ _ (fun xs S1 ⟨ds, e, z, q⟩ => ⟨ds, e, z, h _ _ q⟩) w, fun σ S K K' h w => w⟩
  | pr k v r ihk ihv ihr => exact ⟨fun σ S Q Q' h w => ihk.1 _ _ _ _ (fun xs S1 => one1_mono fun x S => ihv.1 _ _ _ _ (fun ys S2 => one1_mono fun y S => bx_mono fun d S => ihr.1 _ _ _ _ (fun ys S2 => h _ _))) w, fun σ S K K' h w => w⟩
  | dctp as ih => exact ⟨fun σ S Q Q' h w => ih.1 _ _ _ _ (fun xs S1 ⟨ds, e, z, q⟩ => ⟨ds, e, z, h _ _ q⟩) w, fun σ S K K' h w => w⟩
  | dpop o k iho ihk => exact ⟨fun σ S Q Q' h w => iho.1 _ _ _ _ (fun xs S1 => one1_mono fun x S ⟨a, kvs0, e1, e2, q⟩ => ⟨a, kvs0, e1, e2, ihk.1 _ _ _ _ (fun ys S2 => one1_mono fun y S ⟨kvs, ky, v, e1, e2, e3, e4, q⟩ => ⟨kvs, ky, v, e1, e2, e3, e4, h _ _ q⟩) q⟩) w, fun σ S K K' h w => w⟩
  | get1 o k iho ihk => exact ⟨fun σ S Q Q' h w => iho.1 _ _ _ _ (fun xs S1 => one1_mono fun x S q => ⟨q.1, ihk.1 _ _ _ _ (fun ys S2 => one1_mono fun y S => view_mono fun c ⟨kvs, ky, e1, e2, e3, q⟩ => ⟨kvs, ky, e1, e2, e3, h _ _ q⟩) q.2⟩) w, fun σ S K K' h w => w⟩
  | get2 o k d iho ihk ihd => exact ⟨fun σ S Q Q' h w => iho.1 _ _ _ _ (fun xs S1 => one1_mono fun x S q => ⟨q.1, ihk.1 _ _ _ _ (fun ys S2 => one1_mono fun y S => ihd.1 _ _ _ _ (fun zs S3 => one1_mono fun z S => view_mono fun c ⟨kvs, ky, dz, e1, e2, e3, e4, q⟩ => ⟨kvs, ky, dz, e1, e2, e3, e4, h _ _ q⟩)) q.2⟩) w, fun σ S K K' h w => w⟩
  | get2N o k d iho ihk ihd => exact ⟨fun σ S Q Q' h w => iho.1 _ _ _ _ (fun xs S1 => one1_mono fun x S ⟨a, kvs0, e1, e2, q⟩ => ⟨a, kvs0, e1, e2, ihk.1 _ _ _ _ (fun ys S2 => one1_mono fun y S => ihd.1 _ _ _ _ (fun zs S3 => one1_mono fun z S ⟨kvs, ky, dz, e1, e2, e3, e4, q⟩ => ⟨kvs, ky, dz, e1, e2, e3, e4, h _ _ q⟩)) q⟩) w, fun σ S K K' h w => w⟩
  | and a b iha ihb => exact ⟨fun σ S Q Q' h w => iha.1 _ _ _ _ (fun xs S1 => one1_mono fun x S => tstK_mono fun b S => Br.mono (ihb.1 _ _ _ _ h) (h _ _)) w, fun σ S K K' h w => w⟩
  | or a b iha ihb => exact ⟨fun σ S Q Q' h w => iha.1 _ _ _ _ (fun xs S1 => one1_mono fun x S => tstK_mono fun b S => Br.mono (h _ _) (ihb.1 _ _ _ _ h)) w, fun σ S K K' h w => w⟩
  | one a ih => exact ⟨fun σ S Q Q' h w => ih.1 _ _ _ _ (fun xs S1 => one1_mono fun x S => tstK_mono fun b S => h _ _) w, fun σ S K K' h w => w⟩
  | not a ih => exact ⟨fun σ S Q Q' h w => ih.1 _ _ _ _ (fun xs S1 => one1_mono fun x S => tstK_mono fun b S => h _ _) w, fun σ S K K' h w => w⟩
  | ife k a b ihk iha ihb => exact ⟨fun σ S Q Q' h w => ihk.1 _ _ _ _ (fun xs S1 => one1_mono fun x S => tstK_mono fun b S => Br.mono (iha.1 _ _ _ _ fun xs S => one1_mono fun x S => h _ _) (ihb.1 _ _ _ _ fun xs S => one1_mono fun x S => h _ _)) w, fun σ S K K' h w => w⟩
  | chain o o' a b k iha ihb ihk => exact ⟨fun σ S Q Q' h w => iha.1 _ _ _ _ (fun xs S1 => one1_mono fun x S => ihb.1 _ _ _ _ (fun ys S2 => one1_mono fun y S => op2D_mono fun z S => tstK_mono fun b S => Br.mono
      (ihk.1 _ _ _ _ fun ys S2 => one1_mono fun y S => op2D_mono fun z S => tstK_mono fun b S => h _ _) (h _ _))) w, fun σ S K K' h w => w⟩
  | slc a b k iha ihb ihk => exact ⟨fun σ S Q Q' h w => iha.1 _ _ _ _ (fun xs S1 => one1_mono fun x S => ihb.1 _ _ _ _ (fun ys S2 => one1_mono fun y S ⟨l, e, q⟩ => ⟨l, e, ihk.1 _ _ _ _ (fun ys S2 => one1_mono fun z S ⟨u, e', q⟩ => ⟨u, e', view_mono (fun c => slcC_mono fun x S => h _ _) q⟩) q⟩)) w, fun σ S K K' h w => w⟩
  | call f as ih => exact ⟨fun σ S Q Q' h w => ih.1 _ _ _ _ (fun xs S1 => hc _ _ _ _ _ fun x S => h _ _) w, fun σ S K K' h w => w⟩
  | meth f o as iho ih => exact ⟨fun σ S Q Q' h w => iho.1 _ _ _ _ (fun xs S1 => one1_mono fun x S ⟨a, fs, e, e', q⟩ => ⟨a, fs, e, e', ih.1 _ _ _ _ (fun xs S1 => hc _ _ _ _ _ fun x S => h _ _) q⟩) w, fun σ S K K' h w => w⟩
  | make k as ih => exact ⟨fun σ S Q Q' h w => ih.1 _ _ _ _ (fun xs S1 q a ha => hc _ _ _ _ _ (fun x S z => ⟨z.1, h _ _ z.2⟩) (q a ha)) w, fun σ S K K' h w => w⟩
  | maken k as ih => exact ⟨fun σ S Q Q' h w => ih.1 _ _ _ _ (fun xs S1 q a ha => hc _ _ _ _ _ (fun x S z => ⟨z.1, h _ _ z.2⟩) (q a ha)) w, fun σ S K K' h w => w⟩
  | fld o ci k ih => exact ⟨fun σ S Q Q' h w => ih.1 _ _ _ _ (fun xs S1 => one1_mono fun x S ⟨a, fs, e, e', y, z, q⟩ => ⟨a, fs, e, e', y, z, h _ _ q⟩) w, fun σ S K K' h w => w⟩
  | hm m o as iho ih => exact ⟨fun σ S Q Q' h w => iho.1 _ _ _ _ (fun xs S1 => one1_mono fun x S => bx_mono fun d S ⟨a, ds, e, e', q⟩ => ⟨a, ds, e, e', ih.1 _ _ _ _ (fun xs S ⟨ob, z, q⟩ => ⟨ob, z, mutC_mono (fun c r ⟨o', z, q⟩ => ⟨o', z, h _ _ q⟩) q⟩) q⟩) w, fun σ S K K' h w => w⟩
  | comp tg elt it tst ihe ihi iht => exact ⟨fun σ S Q Q' h w => ihi.2 _ _ _ _ (fun J S => compL_mono (fun σ S K K' h => ihe.1 σ S (one1 fun y S2 => bx y S2 K) (one1 fun y S2 => bx y S2 K') fun xs S => one1_mono fun x S => bx_mono h) (fun σ S K K' h => iht.1 σ S (one1 (tstK K)) (one1 (tstK K')) fun xs S => one1_mono fun x S => tstK_mono h) (fun a S => h [.vl a] S) _ _ _) w, fun σ S K K' h w => w⟩
  | itv i => exact ⟨fun σ S Q Q' h w => w, fun σ S K K' h ⟨x, e, w⟩ => ⟨x, e, srcX_mono h w⟩⟩
  | ite e ih => exact ⟨fun σ S Q Q' h w => w, fun σ S K K' h w => ih.1 _ _ _ _ (fun xs S => one1_mono fun x S => srcX_mono h) w⟩
  | ichs a ih => exact ⟨fun σ S Q Q' h w => w, fun σ S K K' h w => ih.1 _ _ _ _ (fun xs S => one1_mono fun x S ⟨n, e, q⟩ => ⟨n, e, h _ _ q⟩) w⟩
  | rng a ih => exact ⟨fun σ S Q Q' h w => w, fun σ S K K' h w => ih.1 _ _ _ _ (fun xs S => one1_mono fun x S ⟨n, e, z, z', q⟩ => ⟨n, e, z, z', h _ _ q⟩) w⟩
  | rng2 a b iha ihb => exact ⟨fun σ S Q Q' h w => w, fun σ S K K' h w => iha.1 _ _ _ _ (fun xs S => one1_mono fun x S => ihb.1 _ _ _ _ fun xs S => one1_mono fun x S ⟨n, m, e, e', z, q⟩ => ⟨n, m, e, e', z, h _ _ q⟩) w⟩
  | rng3 a b s iha ihb ihs => exact ⟨fun σ S Q Q' h w => w, fun σ S K K' h w => iha.1 _ _ _ _ (fun xs S => one1_mono fun x S => ihb.1 _ _ _ _ fun xs S => one1_mono fun y S => ihs.1 _ _ _ _ fun xs S => one1_mono fun z S ⟨i, j, k, n, e1, e2, e3, e4, q⟩ => ⟨i, j, k, n, e1, e2, e3, e4, h _ _ q⟩) w⟩
  | enu a ih => exact ⟨fun σ S Q Q' h w => w, fun σ S K K' h w => ih.2 _ _ _ _ (fun J S => h _ _) w⟩
  | sIt e ih => exact ⟨fun σ S Q Q' h w => ih.1 _ _ _ _ (fun xs S1 => one1_mono fun x S => view_mono fun c ⟨ps, e, z, q⟩ => ⟨ps, e, z, fun qs p p' => h _ _ (q qs p p')⟩) w, fun σ S K K' h w => w⟩
  | rev e ih => exact ⟨fun σ S Q Q' h w => ih.1 _ _ _ _ (fun xs S1 => one1_mono fun x S => view_mono fun c ⟨ps, z⟩ => ⟨ps, z.imp (fun ⟨e, q⟩ => ⟨e, h _ _ q⟩) (fun ⟨e, q⟩ => ⟨e, h _ _ q⟩)⟩) w, fun σ S K K' h w => w⟩
  | lrg e ih => exact ⟨fun σ S Q Q' h w => ih.1 _ _ _ _ (fun xs S1 => one1_mono fun x S ⟨n, e, z1, z2, q⟩ => ⟨n, e, z1, z2, h _ _ q⟩) w, fun σ S K K' h w => w⟩
  | bm1 m o a iho iha => exact ⟨fun σ S Q Q' h w => iho.1 _ _ _ _ (fun xs S1 => one1_mono fun x S ⟨ty, q⟩ => ⟨ty, iha.1 _ _ _ _ (fun ys S2 => one1_mono fun y S => bmD_mono fun z S3 => h _ _) q⟩) w, fun σ S K K' h w => w⟩
  | upper o ih => exact ⟨fun σ S Q Q' h w => ih.1 _ _ _ _ (fun xs S1 => one1_mono fun x S ⟨s, e, z, q⟩ => ⟨s, e, z, h _ _ q⟩) w, fun σ S K K' h w => w⟩
  | setP a ih => exact ⟨fun σ S Q Q' h w => ih.1 _ _ _ _ (fun xs S1 => one1_mono fun x S => view_mono fun c ⟨ps, e, z1, q⟩ => ⟨ps, e, z1, fun qs p1 p2 p3 => h _ _ (q qs p1 p2 p3)⟩) w, fun σ S K K' h w => w⟩
  | slr a b k iha ihb ihk => exact ⟨fun σ S Q Q' h w => iha.1 _ _ _ _ (fun xs S1 => one1_mono fun x S => ihb.1 _ _ _ _ fun ys S2 => one1_mono fun y S ⟨i, e, q⟩ => ⟨i, e, ihk.1 _ _ _ _ (fun zs S2 => one1_mono fun z S ⟨e', q⟩ => ⟨e', view_mono (fun c ⟨ds, e, hz, q⟩ => ⟨ds, e, hz, h _ _ q⟩) q⟩) q⟩) w, fun σ S K K' h w => w⟩
  | setop k a ih => exact ⟨fun σ S Q Q' h w => ih.1 _ _ _ _ (fun xs S1 => one1_mono fun x S => view_mono fun c ⟨ns, e, z1, q⟩ => ⟨ns, e, z1, fun ms p1 p2 p3 => h _ _ (q ms p1 p2 p3)⟩) w, fun σ S K K' h w => w⟩
  | slen a ih => exact ⟨fun σ S Q Q' h w => ih.1 _ _ _ _ (fun xs S1 => one1_mono fun x S => view_mono fun c ⟨ns, e, z1, q⟩ => ⟨ns, e, z1, fun ms p1 p2 => h _ _ (q ms p1 p2)⟩) w, fun σ S K K' h w => w⟩
  | dctn => exact ⟨fun σ S Q Q' h w a ha => h _ _ (w a ha), fun σ S K K' h w => w⟩
  | lend i e ih => exact ⟨fun σ S Q Q' h ⟨a, ds, e1, e2, w⟩ => ⟨a, ds, e1, e2, ih.1 _ _ _ _ (fun xs S q => ⟨q.1, q.2.1, fun z => h _ _ (q.2.2 z)⟩) w⟩, fun σ S K K' h w => w⟩
  | lockEN e ih => exact ⟨fun σ S Q Q' h ⟨a, kvs, e1, w⟩ => ⟨a, kvs, e1, fun z ns => ih.1 _ _ _ _ (fun xs S q => ⟨q.1, h _ _ q.2⟩) (w z ns)⟩, fun σ S K K' h w => w⟩
  | dctn1 k v ihk ihv => exact ⟨fun σ S Q Q' h w => ihk.1 _ _ _ _ (fun xs S1 => one1_mono fun x S => ihv.1 _ _ _ _ (fun ys S2 => one1_mono fun y S => bx_mono fun d S3 ⟨kd, e1, e2, q⟩ => ⟨kd, e1, e2, fun a ha => h _ _ (q a ha)⟩)) w, fun σ S K K' h w => w⟩
  | kmem neg k a ih => exact ⟨fun σ S Q Q' h w => ih.1 _ _ _ _ (fun xs S1 => one1_mono fun x S ⟨s, e, q⟩ => ⟨s, e, h _ _ q⟩) w, fun σ S K K' h w => w⟩
  | kidx k a ih => exact ⟨fun σ S Q Q' h w => ih.1 _ _ _ _ (fun xs S1 => one1_mono fun x S ⟨s, v, e, e2, q⟩ => ⟨s, v, e, e2, h _ _ q⟩) w, fun σ S K K' h w => w⟩
  | lockV e ih => exact ⟨fun σ S Q Q' h w => ih.1 _ _ _ _ (fun xs S1 => one1_mono fun x S ⟨a, kvs, e1, e2, q⟩ => ⟨a, kvs, e1, e2, fun z ns => h _ _ (q z ns)⟩) w, fun σ S K K' h w => w⟩
  | stp a k iha ihk => exact ⟨fun σ S Q Q' h w => iha.1 _ _ _ _ (fun xs S1 => one1_mono fun x S => ihk.1 _ _ _ _ fun ys S2 => one1_mono fun y S ⟨z, e, hz, q⟩ => ⟨z, e, hz, view_mono (fun c ⟨ds, e, q⟩ => ⟨ds, e, h _ _ q⟩) q⟩) w, fun σ S K K' h w => w⟩
  | lockE e ih => exact ⟨fun σ S Q Q' h ⟨a, kvs, e1, w⟩ => ⟨a, kvs, e1, fun z => ih.1 _ _ _ _ (fun xs S q => ⟨q.1, h _ _ q.2⟩) (w z)⟩, fun σ S K K' h w => w⟩
  | itk e ih => exact ⟨fun σ S Q Q' h w => w, fun σ S K K' h w => ih.1 _ _ _ _ (fun xs S => one1_mono fun x S ⟨a, kvs, z, e1, e2, q⟩ => ⟨a, kvs, z, e1, e2, h _ _ q⟩) w⟩
  | enuk e ih => exact ⟨fun σ S Q Q' h w => w, fun σ S K K' h w => ih.1 _ _ _ _ (fun xs S => one1_mono fun x S ⟨a, kvs, z, e1, e2, q⟩ => ⟨a, kvs, z, e1, e2, h _ _ q⟩) w⟩
  | itkn e ih => exact ⟨fun σ S Q Q' h w => w, fun σ S K K' h w => ih.1 _ _ _ _ (fun xs S => one1_mono fun x S ⟨a, kvs, z, ns, e1, e2, q⟩ => ⟨a, kvs, z, ns, e1, e2, h _ _ q⟩) w⟩
  | itms e ih => exact ⟨fun σ S Q Q' h w => w, fun σ S K K' h w => ih.1 _ _ _ _ (fun xs S => one1_mono fun x S ⟨a, kvs, z, e1, e2, q⟩ => ⟨a, kvs, z, e1, e2, h _ _ q⟩) w⟩
  | zip a b iha ihb => exact ⟨fun σ S Q Q' h w => w, fun σ S K K' h w => iha.2 _ _ _ _ (fun J S => ihb.2 _ _ _ _ fun J S q => ⟨q.1, q.2.1, h _ _ q.2.2⟩) w⟩
  | _ => exact ⟨fun σ S Q Q' h w => w, fun σ S K K' h w => w⟩
theorem wpE_mono (hc : CalMono c) {r : R} {σ : Sl} {S : Hs} {Q Q' : LK2} (w : wpE T c r σ S Q) (h : ∀ x S, Q x S → Q' x S) : wpE T c r σ S Q' := (wp_mono hc r).1 _ _ _ _ h w
theorem wpI_mono (hc : CalMono c) {r : R} {σ : Sl} {S : Hs} {Q Q' : It2 → Hs → Prop} (w : wpI T c r σ S Q) (h : ∀ x S, Q x S → Q' x S) : wpI T c r σ S Q' := (wp_mono hc r).2 _ _ _ _ h w
theorem forL_mono {tg : Tg} {ok : Sl → Hs → Prop} {b b' : (Sl → Hs → Prop) → Sl → Hs → Prop} {nx nx' : Sl → Hs → Prop} (hb : ∀ k k' σ S, (∀ σ S, k σ S → k' σ S) → b k σ S → b' k' σ S) (hn : ∀ σ S, nx σ S → nx' σ S) :
    ∀ (xs : List D) (σ : Sl) (S : Hs), forL tg ok b nx xs σ S → forL tg ok b' nx' xs σ S
  | [], _, _, w => ⟨w.1, hn _ _ w.2⟩
  | x :: xs, σ, S, w => ⟨w.1, bindT_mono (fun σ' => hb _ _ _ _ (forL_mono hb hn xs)) w.2⟩
theorem whlN_mono {t t' : Sl → Hs → (Bool → Hs → Prop) → Prop} {b b' : (Sl → Hs → Prop) → Sl → Hs → Prop} {nx nx' : Sl → Hs → Prop} (ht : ∀ σ S K K', (∀ b S, K b S → K' b S) → t σ S K → t' σ S K')
    (hb : ∀ k k' σ S, (∀ σ S, k σ S → k' σ S) → b k σ S → b' k' σ S) (hn : ∀ σ S, nx σ S → nx' σ S) : ∀ (n : Nat) (σ : Sl) (S : Hs), whlN t b nx n σ S → whlN t' b' nx' n σ S
  | 0, _, _, w => w
  | n + 1, σ, S, w => ht _ _ _ _ (fun b S => Br.mono (hb _ _ _ _ (whlN_mono ht hb hn n)) (hn _ _)) w
theorem wpS_mono (hc : CalMono c) {r : R} : ∀ {σ : Sl} {S : Hs} {nx nx' : SK2} {rt rt' : VK2} {bk bk' ct ct' : SK2}, (∀ σ S, nx σ S → nx' σ S) → (∀ x S, rt x S → rt' x S) → (∀ σ S, bk σ S → bk' σ S) → (∀ σ S, ct σ S → ct' σ S) →
    wpS T c r σ S nx rt bk ct → wpS T c r σ S nx' rt' bk' ct' := by
  induction r with
  | seq a r iha ihr => exact fun h1 h2 h3 h4 w => iha (fun σ S => ihr h1 h2 h3 h4) h2 h3 h4 w
  | skip => exact fun h1 h2 h3 h4 w => h1 _ _ w
  | expr e => exact fun h1 h2 h3 h4 w => wpE_mono hc w fun xs S => one1_mono fun x S => h1 _ _
  | set i e => exact fun h1 h2 h3 h4 w => wpE_mono hc w fun xs S => one1_mono fun x S => stor_mono (h1 _ _)
  | setT is e => exact fun h1 h2 h3 h4 w => wpE_mono hc w fun xs S => one1_mono fun x S => view_mono fun c ⟨ds, e, σ', e', q⟩ => ⟨ds, e, σ', e', h1 _ _ q⟩
  | seti o k e => exact fun h1 h2 h3 h4 w => wpE_mono hc w fun xs S => one1_mono fun x S => bx_mono fun d S q => wpE_mono hc q fun xs S => one1_mono fun x S q => wpE_mono hc q fun xs S => one1_mono fun x S ⟨a, ob, kd, e1, e2, e3, q⟩ =>
      ⟨a, ob, kd, e1, e2, e3, mutC_mono (fun c r ⟨o', z, q⟩ => ⟨o', z, h1 _ _ q⟩) q⟩
  | oseti i k e => exact fun h1 h2 h3 h4 w => wpE_mono hc w fun xs S => one1_mono fun x S => bx_mono fun d S ⟨x, e1, q⟩ => ⟨x, e1, wpE_mono hc q fun xs S => one1_mono fun x S ⟨kd, e2, q⟩ =>
      ⟨kd, e2, ownC_mono (fun c => mutC_mono fun c r => h1 _ _) q⟩⟩
  | slcset o e => exact fun h1 h2 h3 h4 w => wpE_mono hc w fun xs S => one1_mono fun x S ⟨b, e1, q⟩ => ⟨b, e1, wpE_mono hc q fun xs S => one1_mono fun x S ⟨a, xs, ys, e1, e2, e3, e4, e5, q⟩ => ⟨a, xs, ys, e1, e2, e3, e4, e5, h1 _ _ q⟩⟩
  | setNAN i o ci k j e => exact fun h1 h2 h3 h4 w => wpE_mono hc w fun xs S => one1_mono fun x S => view_mono fun c ⟨d0, d1, d2, e1, q⟩ => ⟨d0, d1, d2, e1, wpE_mono hc q fun xs S => one1_mono fun x S ⟨a, fs, e1, e2, e3, q⟩ => ⟨a, fs, e1, e2, e3, h1 _ _ q⟩⟩
  | fset o ci k e => exact fun h1 h2 h3 h4 w => wpE_mono hc w fun xs S => one1_mono fun x S => bx_mono fun d S q => wpE_mono hc q fun xs S => one1_mono fun x S ⟨a, fs, e1, e2, e3, q⟩ => ⟨a, fs, e1, e2, e3, h1 _ _ q⟩
  | faug o ci k e => exact fun h1 h2 h3 h4 w => wpE_mono hc w fun xs S => one1_mono fun x S ⟨a, fs, i, e1, e2, e3, q⟩ => ⟨a, fs, i, e1, e2, e3, wpE_mono hc q fun xs S => one1_mono fun x S ⟨j, fs', e1, e2, e3, q⟩ => ⟨j, fs', e1, e2, e3, h1 _ _ q⟩⟩
  | iff k a r _ iha ihr => exact fun h1 h2 h3 h4 w => wpE_mono hc w fun xs S => one1_mono fun x S => tstK_mono fun b S => Br.mono (iha h1 h2 h3 h4) (ihr h1 h2 h3 h4)
  | whl k a _ iha => exact fun h1 h2 h3 h4 ⟨n, w⟩ => ⟨n, whlN_mono (fun σ S K K' h (q : wpE T c k σ S (one1 (tstK K))) => (wpE_mono hc q (fun xs S => one1_mono fun x S => tstK_mono h) : wpE T c k σ S (one1 (tstK K')))) (fun k k' σ S h => iha (σ := σ) (S := S) h h2 h1 h) h1 n _ _ w⟩
  | «for» tg it a _ iha => exact fun h1 h2 h3 h4 w => wpI_mono hc w fun J S => forL_mono (fun k k' σ S h => iha (σ := σ) (S := S) h h2 h1 h) h1 _ _ _
  | ret e => exact fun h1 h2 h3 h4 w => wpE_mono hc w fun xs S => one1_mono fun x S => stor_mono (h2 _ _)
  | retn => exact fun h1 h2 h3 h4 w => h2 _ _ w
  | retv i => exact fun h1 h2 h3 h4 ⟨x, e, w⟩ => ⟨x, e, stor_mono (h2 _ _) w⟩
  | brk => exact fun h1 h2 h3 h4 w => h3 _ _ w
  | cnt => exact fun h1 h2 h3 h4 w => h4 _ _ w
  | box i => exact fun h1 h2 h3 h4 ⟨x, e, w⟩ => ⟨x, e, bx_mono (fun d S => h1 _ _) w⟩
  | tryp st ih => exact fun h1 h2 h3 h4 w => ih h1 h2 h3 h4 w
  | lockN st ih => exact fun h1 h2 h3 h4 ⟨a, kvs, e, w⟩ => ⟨a, kvs, e, fun z ns => ih (fun σ S q => ⟨q.1, h1 _ _ q.2⟩) (fun x S q => ⟨q.1, h2 _ _ q.2⟩) (fun σ S q => ⟨q.1, h3 _ _ q.2⟩) (fun σ S q => ⟨q.1, h4 _ _ q.2⟩) (w z ns)⟩
  | lock st ih => exact fun h1 h2 h3 h4 ⟨a, kvs, e, w⟩ => ⟨a, kvs, e, fun z => ih (fun σ S q => ⟨q.1, h1 _ _ q.2⟩) (fun x S q => ⟨q.1, h2 _ _ q.2⟩) (fun σ S q => ⟨q.1, h3 _ _ q.2⟩) (fun σ S q => ⟨q.1, h4 _ _ q.2⟩) (w z)⟩
  | om m i as dst => exact fun h1 h2 h3 h4 ⟨x, e, w⟩ => ⟨x, e, wpE_mono hc w fun xs S q => mutC_mono (fun c r => h1 _ _) q⟩
  | _ => exact fun h1 h2 h3 h4 w => w
end
theorem cal_mono {T : Tbl} : ∀ n, CalMono (cal T n)
  | 0 => fun _ _ _ _ _ _ w => w
  | n + 1 => fun f xs S Q Q' h ⟨F, e, l, o, w⟩ => ⟨F, e, l, o, wpS_mono (cal_mono n) (fun σ S => h _ _) h (fun _ _ z => z) (fun _ _ z => z) w⟩
end DL
namespace DL
open PySem L2 PySem.Spec PyProof.Rows
noncomputable abbrev Frag := PySem.W.Frag
noncomputable abbrev sv (s : List Nat) : Str := ⟨s.toArray⟩
noncomputable def SqE (H : Hp) (t : Addr) (vs : List V) : Prop := ∃ o, H t = some (.frz o (.tup vs)) ∧ o.dict = none
theorem SqE.t {K : Frag} {H : Hp} {t : Addr} {vs : List V} (h : SqE H t vs) : SqT K H t vs := let ⟨o, e, _⟩ := h; .inl (.inr ⟨o, e⟩)
mutual
noncomputable def RepV (K : Frag) (H : Hp) : D → V → Prop
  | .non, v => v = .non
  | .bl b, v => v = .bl b
  | .int i, v => v = .int i
  | .str s, v => v = .str (sv s)
  | .ref a, v => v = .ref a
  | .tup ds, v => ∃ t vs, v = .ref t ∧ SqT K H t vs ∧ RepL K H ds vs
  | .xt ds, v => ∃ t vs, v = .ref t ∧ SqE H t vs ∧ RepL K H ds vs
noncomputable def RepL (K : Frag) (H : Hp) : List D → List V → Prop
  | [], vs => vs = []
  | d :: ds, vs => ∃ v vr, vs = v :: vr ∧ RepV K H d v ∧ RepL K H ds vr
end
structure Cls2 where
  adr : Nat → Addr
  lay : Nat → List Str
  w : World
noncomputable def KeyR : D → Key → Prop
  | .int i, k => k = .inl i
  | .str s, k => k = .inr (sv s)
  | _, _ => False
noncomputable def DicR (K : Frag) (H : Hp) (kvs : List (D × D)) (ks : List (Key × V)) : Prop := Paired (fun (p : D × D) (q : Key × V) => KeyR p.1 q.1 ∧ RepV K H p.2 q.2) kvs ks
mutual
noncomputable def nkD : D → NestedKey
  | .non => .none
  | .bl b => .num (if b then 1 else 0)
  | .int i => .num i
  | .str s => .text (sv s)
  | .ref _ => .none
  | .xt _ => .none
  | .tup ds => .tup (nkDs ds)
noncomputable def nkDs : List D → List NestedKey
  | [] => []
  | d :: ds => nkD d :: nkDs ds
end
noncomputable abbrev NE := NestedKey × Addr × Value
noncomputable def entN (w : World) (x : NE) : DictEntry := ⟨x.1.hash w, .ref x.2.1, x.2.2⟩
noncomputable def dnP (w : World) (a : Addr) (xs : List NE) (h : Heap) : Prop := ∃ o es ep, h.get? a = some o ∧ o.ExactDict ∧ o.data = .dict es ep ∧ es.toList = xs.map (entN w)
noncomputable def dnO (w : World) (a : Addr) (xs : List NE) : HO := .ext (dnP w a xs)
noncomputable def DnE (K : Frag) (H : Hp) (p : D × D) (x : NE) : Prop := keyN p.1 = true ∧ x.1 = nkD p.1 ∧ RepV K H p.1 (.ref x.2.1) ∧ ∃ v, RelV v x.2.2 ∧ RepV K H p.2 v
noncomputable def DnR (K : Frag) (H : Hp) (kvs : List (D × D)) (xs : List NE) : Prop := Paired (DnE K H) kvs xs
structure DnOk (K : Frag) (H : Hp) (a : Addr) (kvs : List (D × D)) (xs : List NE) : Prop where
  r : DnR K H kvs xs
  nd : (xs.map (·.1)).Nodup
  z : xs.length ≤ sizeLine
  m : (a == sysModules) = false
noncomputable def RelO (K : Frag) (cx : Cls2) (H : Hp) (a : Addr) : O → Prop
  | .lst ds => ∃ vs, H a = some (.lst vs) ∧ RepL K H ds vs
  | .dic kvs => ∃ ks, H a = some (.dK ks) ∧ DicR K H kvs ks
  | .fdc kvs h => H a = some h ∧ ∃ o ks, h = .frz o (.dK ks) ∧ DicR K H kvs ks
  | .dn kvs => ∃ xs, H a = some (dnO cx.w a xs) ∧ DnOk K H a kvs xs
  | .fdn kvs h xs => H a = some h ∧ ∃ o, h = .frz o (dnO cx.w a xs) ∧ DnOk K H a kvs xs
  | .ins c fs => ∃ dx fv, H a = some (.ins (cx.adr c) dx fv) ∧ fv.map Prod.fst = (cx.lay c).take fs.length ∧ fs.length ≤ (cx.lay c).length ∧ RepL K H fs (fv.map Prod.snd)
noncomputable def Rel (K : Frag) (cx : Cls2) (S : Hs) (H : Hp) : Prop := ∀ a o, S a = some o → RelO K cx H a o
noncomputable def RepX (K : Frag) (H : Hp) (S : Hs) : Vx → V → Prop
  | .d x, v => RepV K H x v
  | .vl ds, v => ∃ a vs, v = .ref a ∧ H a = some (.lst vs) ∧ S a = none ∧ RepL K H ds vs
  | .bw ds, v => ∃ a vs, v = .ref a ∧ H a = some (.lst vs) ∧ S a = none ∧ RepL K H ds vs
  | .fz ds, v => ∃ a vs, v = .ref a ∧ ((∃ o, H a = some (.frz o (.lst vs)) ∧ S a = none) ∨ SqL K (fun _ => none) a vs) ∧ RepL K H ds vs
  | .vd kvs, v => ∃ a ks, v = .ref a ∧ H a = some (.dK ks) ∧ S a = none ∧ DicR K H kvs ks
  | .bd kvs, v => ∃ a ks, v = .ref a ∧ H a = some (.dK ks) ∧ S a = none ∧ DicR K H kvs ks
  | .st _, _ => False
noncomputable def RepR (K : Frag) (H0 H : Hp) (S : Hs) (x : Vx) (v : V) : Prop := RepX K H S x v ∧ (own x = true → ∃ a, v = .ref a ∧ H0 a = none)
structure Keep (S S' : Hs) (H H' : Hp) : Prop where
  kp : ∀ b o, H b = some o → S b = none → H' b = some o ∧ S' b = none
  up : ∀ b, H' b = none → H b = none
theorem Keep.refl {S : Hs} {H : Hp} : Keep S S H H := ⟨fun b o e n => ⟨e, n⟩, fun _ e => e⟩
theorem Keep.trans {S1 S2 S3 : Hs} {H1 H2 H3 : Hp} (a : Keep S1 S2 H1 H2) (b : Keep S2 S3 H2 H3) : Keep S1 S3 H1 H3 :=
  ⟨fun c o e n => let ⟨e', n'⟩ := a.kp c o e n; b.kp c o e' n', fun c e => a.up c (b.up c e)⟩
section
variable {K : Frag} {cx : Cls2} {S S' : Hs} {H H' H0 : Hp}
noncomputable def TupS (K : Frag) (H H' : Hp) : Prop := (∀ t vs, SqT K H t vs → SqT K H' t vs) ∧ ∀ t vs, SqE H t vs → SqE H' t vs
mutual
theorem RepV.keep (h : TupS K H H') : ∀ (d : D) (v : V), RepV K H d v → RepV K H' d v
  | .non, _, r => r
  | .bl _, _, r => r
  | .int _, _, r => r
  | .str _, _, r => r
  | .ref _, _, r => r
  | .tup ds, _, ⟨t, vs, e, q, r⟩ => ⟨t, vs, e, h.1 _ _ q, RepL.keep h ds vs r⟩
  | .xt ds, _, ⟨t, vs, e, q, r⟩ => ⟨t, vs, e, h.2 _ _ q, RepL.keep h ds vs r⟩
theorem RepL.keep (h : TupS K H H') : ∀ (ds : List D) (vs : List V), RepL K H ds vs → RepL K H' ds vs
  | [], _, r => r
  | d :: ds, _, ⟨v, vr, e, r, rr⟩ => ⟨v, vr, e, RepV.keep h d v r, RepL.keep h ds vr rr⟩
end
theorem DicR.keep (h : TupS K H H') {kvs : List (D × D)} {ks : List (Key × V)} (r : DicR K H kvs ks) : DicR K H' kvs ks := Paired.mapP r fun p q z => ⟨z.1, RepV.keep h _ _ z.2⟩
theorem DnOk.keep (h : TupS K H H') {a : Addr} {kvs : List (D × D)} {xs : List NE} (r : DnOk K H a kvs xs) : DnOk K H' a kvs xs := ⟨Paired.mapP r.r fun p q z => ⟨z.1, z.2.1, RepV.keep h _ _ z.2.2.1, let ⟨v, h1, h2⟩ := z.2.2.2; ⟨v, h1, RepV.keep h _ _ h2⟩⟩, r.nd, r.z, r.m⟩
theorem RepL.nil : RepL K H [] [] := rfl
theorem RepL.cons {d : D} {ds : List D} {v : V} {vs : List V} (r : RepV K H d v) (rr : RepL K H ds vs) : RepL K H (d :: ds) (v :: vs) := ⟨v, vs, rfl, r, rr⟩
theorem RepL.length : ∀ {ds : List D} {vs : List V}, RepL K H ds vs → ds.length = vs.length
  | [], _, e => by cases e; rfl
  | d :: ds, _, ⟨v, vr, e, r, rr⟩ => by subst e; simp [RepL.length rr]
theorem RepL.get : ∀ {ds : List D} {vs : List V} {i : Nat} {d : D}, RepL K H ds vs → ds[i]? = some d → ∃ v, vs[i]? = some v ∧ RepV K H d v
  | [], _, _, _, _, q => by simp at q
  | d :: ds, _, 0, _, ⟨v, vr, e, r, rr⟩, q => by simp at q; subst q; subst e; exact ⟨v, by simp, r⟩
  | d :: ds, _, i + 1, x, ⟨v, vr, e, r, rr⟩, q => by
    obtain ⟨u, h1, h2⟩ := RepL.get (i := i) (d := x) rr (by simpa using q)
    subst e
    exact ⟨u, by simpa using h1, h2⟩
theorem RepL.append : ∀ {ds es : List D} {vs us : List V}, RepL K H ds vs → RepL K H es us → RepL K H (ds ++ es) (vs ++ us)
  | [], _, _, _, e, q => by cases e; exact q
  | d :: ds, _, _, _, ⟨v, vr, e, r, rr⟩, q => by subst e; exact ⟨v, _, rfl, r, RepL.append rr q⟩
theorem RepL.take : ∀ {ds : List D} {vs : List V} (n : Nat), RepL K H ds vs → RepL K H (ds.take n) (vs.take n)
  | _, _, 0, _ => by simp [RepL]
  | [], _, n + 1, e => by cases e; simp [RepL]
  | d :: ds, _, n + 1, ⟨v, vr, e, r, rr⟩ => by subst e; exact ⟨v, _, rfl, r, RepL.take n rr⟩
theorem RepL.drop : ∀ {ds : List D} {vs : List V} (n : Nat), RepL K H ds vs → RepL K H (ds.drop n) (vs.drop n)
  | _, _, 0, r => by simpa using r
  | [], _, n + 1, e => by cases e; simp [RepL]
  | d :: ds, _, n + 1, ⟨v, vr, e, r, rr⟩ => by subst e; exact RepL.drop n rr
theorem RepL.cut {ds : List D} {vs : List V} (r : RepL K H ds vs) (lo hi : Option Int) : RepL K H (cutI ds lo hi) (cutV vs lo hi) := by
  unfold cutI cutV
  rw [r.length]
  exact (r.drop _).take _
theorem RepL.set : ∀ {ds : List D} {vs : List V} (n : Nat) {d : D} {v : V}, RepL K H ds vs → RepV K H d v → RepL K H (ds.set n d) (vs.set n v)
  | [], _, _, _, _, e, _ => by cases e; simp [RepL]
  | d :: ds, _, 0, _, _, ⟨v, vr, e, r, rr⟩, q => by subst e; exact ⟨_, _, rfl, q, rr⟩
  | d :: ds, _, n + 1, _, _, ⟨v, vr, e, r, rr⟩, q => by subst e; exact ⟨_, _, rfl, r, RepL.set n rr q⟩
theorem RepL.eraseIdx : ∀ {ds : List D} {vs : List V} (n : Nat), RepL K H ds vs → RepL K H (ds.eraseIdx n) (vs.eraseIdx n)
  | [], _, _, e => by cases e; simp [RepL]
  | d :: ds, _, 0, ⟨v, vr, e, r, rr⟩ => by subst e; exact rr
  | d :: ds, _, n + 1, ⟨v, vr, e, r, rr⟩ => by subst e; exact ⟨_, _, rfl, r, RepL.eraseIdx n rr⟩
theorem RepL.dropLast {ds : List D} {vs : List V} (r : RepL K H ds vs) : RepL K H ds.dropLast vs.dropLast := by
  rw [List.dropLast_eq_take, List.dropLast_eq_take, r.length]
  exact r.take _
theorem RepL.rep {ds : List D} {vs : List V} (r : RepL K H ds vs) : ∀ n, RepL K H (repD ds n) ((List.replicate n vs).flatten)
  | 0 => by simp [repD, RepL]
  | n + 1 => by
    have := RepL.append r (RepL.rep r n)
    simpa [repD, List.replicate_succ] using this
theorem RepL.ints : ∀ {ns : List Int} {vs : List V}, RepL K H (ns.map D.int) vs → vs = ns.map V.int
  | [], _, e => e
  | n :: ns, _, ⟨v, vr, e, r, rr⟩ => by subst e; cases r; rw [RepL.ints rr]; rfl
theorem RepL.ofInts : ∀ (ns : List Int), RepL K H (ns.map D.int) (ns.map V.int)
  | [] => rfl
  | n :: ns => ⟨_, _, rfl, rfl, RepL.ofInts ns⟩
theorem RepL.bls : ∀ {ns : List Bool} {vs : List V}, RepL K H (ns.map D.bl) vs → vs = ns.map V.bl
  | [], _, e => e
  | n :: ns, _, ⟨v, vr, e, r, rr⟩ => by subst e; cases r; rw [RepL.bls rr]; rfl
noncomputable def seqish : HO → Bool
  | .tup _ => true
  | .frz _ (.dK _) => false
  | .frz _ (.ext _) => false
  | .frz _ _ => true
  | _ => false
theorem tupS_upd {a : Addr} {h : HO} (q : ∀ o, H a = some o → seqish o = false) : TupS K H (upd H a h) := by
  refine ⟨fun t vs hs => ?_, fun t vs ⟨o, hs, hd⟩ => ⟨o, by
    rw [upd_ne]
    · exact hs
    · rintro rfl
      have := q _ hs
      simp [seqish] at this, hd⟩⟩
  rcases hs with (hs | ⟨o, hs⟩) | hs
  · refine .inl (.inl ?_)
    rw [upd_ne]
    · exact hs
    · rintro rfl
      have := q _ hs
      simp [seqish] at this
  · refine .inl (.inr ⟨o, ?_⟩)
    rw [upd_ne]
    · exact hs
    · rintro rfl
      have := q _ hs
      simp [seqish] at this
  · exact .inr hs
theorem tupS_new {a : Addr} {h : HO} (q : H a = none) : TupS K H (upd H a h) := tupS_upd fun o e => by rw [q] at e; cases e
theorem RelO.keep {a : Addr} {o : O} (h : TupS K H H') (e : H' a = H a) (r : RelO K cx H a o) : RelO K cx H' a o := by
  cases o with
  | lst ds => obtain ⟨vs, q, r⟩ := r; exact ⟨vs, e.trans q, r.keep h⟩
  | dic kvs => obtain ⟨ks, q, r⟩ := r; exact ⟨ks, e.trans q, r.keep h⟩
  | fdc kvs z => obtain ⟨q, o, ks, e1, r⟩ := r; exact ⟨e.trans q, o, ks, e1, r.keep h⟩
  | dn kvs => obtain ⟨xs, q, r⟩ := r; exact ⟨xs, e.trans q, r.keep h⟩
  | fdn kvs z xs => obtain ⟨q, o, e1, r⟩ := r; exact ⟨e.trans q, o, e1, r.keep h⟩
  | ins c fs => obtain ⟨dx, fv, q, l1, l2, r⟩ := r; exact ⟨dx, fv, e.trans q, l1, l2, r.keep h⟩
theorem RelO.some {a : Addr} {o : O} (r : RelO K cx H a o) : ∃ h, H a = .some h ∧ seqish h = false := by
  cases o with
  | lst ds => obtain ⟨vs, q, r⟩ := r; exact ⟨_, q, rfl⟩
  | dic kvs => obtain ⟨ks, q, r⟩ := r; exact ⟨_, q, rfl⟩
  | fdc kvs z => obtain ⟨q, o, ks, e1, r⟩ := r; subst e1; exact ⟨_, q, rfl⟩
  | dn kvs => obtain ⟨xs, q, r⟩ := r; exact ⟨_, q, rfl⟩
  | fdn kvs z xs => obtain ⟨q, o, e1, r⟩ := r; subst e1; exact ⟨_, q, rfl⟩
  | ins c fs => obtain ⟨dx, fv, q, l1, l2, r⟩ := r; exact ⟨_, q, rfl⟩
theorem Rel.free (r : Rel K cx S H) {a : Addr} (e : H a = none) : S a = none := by
  cases q : S a with
  | none => rfl
  | some o =>
    obtain ⟨h, z, _⟩ := (r a o q).some
    rw [e] at z; cases z
theorem Rel.upd0 (r : Rel K cx S H) {a : Addr} {h : HO} (n : S a = none) (t : TupS K H (upd H a h)) : Rel K cx S (upd H a h) := fun b o e =>
  RelO.keep t (upd_ne fun z => by subst z; rw [n] at e; cases e) (r b o e)
theorem Rel.upd1 (r : Rel K cx S H) {a : Addr} {h : HO} {o : O} (t : TupS K H (upd H a h)) (q : RelO K cx (upd H a h) a o) : Rel K cx (su S a o) (upd H a h) := fun b u e => by
  by_cases z : b = a
  · subst z; rw [su_same] at e; cases e; exact q
  · rw [su_ne z] at e
    exact RelO.keep t (upd_ne z) (r b u e)
theorem Rel.box (r : Rel K cx S H) {a : Addr} {o : O} (q : RelO K cx H a o) : Rel K cx (su S a o) H := fun b u e => by
  by_cases z : b = a
  · subst z; rw [su_same] at e; cases e; exact q
  · rw [su_ne z] at e
    exact r b u e
theorem Keep.new {a : Addr} {h : HO} (n : H a = none) : Keep S S H (upd H a h) :=
  ⟨fun b o e z => ⟨by rw [upd_ne (ne_of_none e n)]; exact e, z⟩, fun b e => by
    by_cases z : b = a
    · subst z; exact n
    · rw [upd_ne z] at e; exact e⟩
theorem Keep.tups (k : Keep S S' H H') (r : Rel K cx S H) : TupS K H H' := by
  have key : ∀ t o, H t = .some o → seqish o = true → H' t = .some o := fun t o e q => by
    refine (k.kp t o e ?_).1
    cases z : S t with
    | none => rfl
    | some u =>
      obtain ⟨h, h1, h2⟩ := (r t u z).some
      rw [e] at h1; cases h1
      rw [q] at h2; cases h2
  refine ⟨fun t vs hs => ?_, fun t vs ⟨o, hs, hd⟩ => ⟨o, key _ _ hs rfl, hd⟩⟩
  rcases hs with (hs | ⟨o, hs⟩) | hs
  · exact .inl (.inl (key _ _ hs rfl))
  · exact .inl (.inr ⟨o, key _ _ hs rfl⟩)
  · exact .inr hs
theorem sqL_none {a : Addr} {vs : List V} (h : SqL K (fun _ => none) a vs) : SqL K H a vs := by
  rcases h with (h | ⟨o, h⟩) | h
  · cases h
  · cases h
  · exact .inr h
theorem fz_sql {a : Addr} {vs : List V} {S : Hs} (h : (∃ o, H a = some (.frz o (.lst vs)) ∧ S a = none) ∨ SqL K (fun _ => none) a vs) : SqL K H a vs := by
  rcases h with ⟨o, h, _⟩ | h
  · exact .inl (.inr ⟨o, h⟩)
  · exact sqL_none h
end
theorem tmul_same (l : Addr) (items : Array Value) (n : Nat) (dd : Option Addr) (sl : Array (Option Value)) (x : Int) (u : Tok) (c0 : (decide (x < -(2 ^ 63)) || decide (x ≥ 2 ^ 63)) = false) (c1 : (items.isEmpty || x == 1) = true) :
    Meets (Builtin.«tuple.__mul__» ⟨[.ref l, .int x u], []⟩) (fun _ R s => s.heap.get? l = some { cls := .type "tuple", dict := dd, data := .seq items n, slots := sl } ∧ R (.ok (.ret (Value.ref l))) s) :=
  .of_wp fun prog w A R s h => by
    obtain ⟨hp, g, d, tk, os⟩ := s
    obtain ⟨hl, h⟩ := h
    have f1 := AutoSeq1.idx_int
    wp_walk using wpAny_loadPart' hl
    repeat (first
      | (refine wpAny_ite_false (decide_eq_false (by rw [c0]; exact Bool.false_ne_true)) ?_; wp_walk using wpAny_loadPart' hl)
      | (refine wpAny_ite_true (decide_eq_true c1) ?_; wp_walk using wpAny_loadPart' hl))
    exact ⟨_, rfl, h⟩
theorem tmul_none (l : Addr) (items : Array Value) (n : Nat) (dd : Option Addr) (sl : Array (Option Value)) (x : Int) (u : Tok) (c0 : (decide (x < -(2 ^ 63)) || decide (x ≥ 2 ^ 63)) = false) (c1 : (items.isEmpty || x == 1) = false) (c2 : (decide (x ≤ 0) || items.isEmpty) = true) :
    Meets (Builtin.«tuple.__mul__» ⟨[.ref l, .int x u], []⟩) (fun _ R s => s.heap.get? l = some { cls := .type "tuple", dict := dd, data := .seq items n, slots := sl } ∧
      R (.ok (.ret (Value.ref s.heap.objs.size))) { s with heap := s.heap.push { cls := Value.type "tuple", data := Data.seq #[] }, toks := s.toks }) :=
  .of_wp fun prog w A R s h => by
    obtain ⟨hp, g, d, tk, os⟩ := s
    obtain ⟨hl, h⟩ := h
    have f1 := AutoSeq1.idx_int
    wp_walk using wpAny_loadPart' hl
    repeat (first
      | (refine wpAny_ite_false (decide_eq_false (by rw [c0]; exact Bool.false_ne_true)) ?_; wp_walk using wpAny_loadPart' hl)
      | (refine wpAny_ite_false (decide_eq_false (by rw [c1]; exact Bool.false_ne_true)) ?_; wp_walk using wpAny_loadPart' hl)
      | (refine wpAny_ite_true (decide_eq_true c2) ?_; wp_walk using wpAny_loadPart' hl))
    exact ⟨_, rfl, h⟩
noncomputable def rRepS (K : Frag) : R2 := fun x y H Q => ∃ l k xs, x = .ref l ∧ y = .int k ∧ SqT K H l xs ∧ (xs = [] ∨ k = 1) ∧ -(2 ^ 62) < k ∧ k ≤ 1000 ∧ Q (.ref l) H
noncomputable def rRepZ (K : Frag) : R2 := fun x y H Q => ∃ l k xs, x = .ref l ∧ y = .int k ∧ SqT K H l xs ∧ xs ≠ [] ∧ -(2 ^ 62) < k ∧ k ≤ 0 ∧ ∀ p, H p = none → Q (.ref p) (upd H p (.tup []))
section
variable {X : Cx}
theorem op_repS : OpR X (binaryOp .Mult) (rRepS X.K) := by
  intro pins s σ H x y v u Q I rx ry h
  obtain ⟨l, k, xs, rfl, rfl, hT, hk, h1, h2, q⟩ := h
  cases rx
  obtain ⟨t, rfl⟩ := ry
  obtain ⟨its, r, ⟨⟨cls, dd, data, sl⟩, ho, hc, n, hd⟩, hs⟩ := I.tuple hT
  simp only at hc hd
  subst hc hd
  have c0 : (decide (k < -(2 ^ 63)) || decide (k ≥ 2 ^ 63)) = false := by
    rw [decide_eq_false (by omega), decide_eq_false (by omega)] <;> rfl
  have c1 : (its.toArray.isEmpty || k == 1) = true := by
    rcases hk with rfl | rfl
    · cases r; rfl
    · rw [Bool.or_eq_true]; exact .inr rfl
  exact wpAny_binaryOp_repeat_ref (T := "tuple") (U := "int") (by decide) ⟨_, ho, rfl⟩ (fun s' => typeIs_int s' k t) noFill_tuple_mul F.fills_int_mul F.slot_int_rmul repeat_tuple F.slot_int_index.lookup
    (call_meets F.slot_int_rmul (typeIs_int s k t) F.entry_int_rmul (F.args_int_rmul_2 _ _) (int_rmul_tuple k t l its.toArray n dd sl)
      ⟨ho, rfl, ⟨_, ho, rfl⟩, call_meets F.slot_tuple_mul ⟨_, ho, rfl⟩ F.entry_tuple_mul (F.args_tuple_mul_2 _ _) (tmul_same l its.toArray n dd sl k t c0 c1) ⟨ho, ⟨.ref l, H, I, rfl, q⟩⟩⟩)
theorem op_repZ : OpR X (binaryOp .Mult) (rRepZ X.K) := by
  intro pins s σ H x y v u Q I rx ry h
  obtain ⟨l, k, xs, rfl, rfl, hT, hne, h1, h2, q⟩ := h
  cases rx
  obtain ⟨t, rfl⟩ := ry
  obtain ⟨its, r, ⟨⟨cls, dd, data, sl⟩, ho, hc, n, hd⟩, hs⟩ := I.tuple hT
  simp only at hc hd
  subst hc hd
  have hn : its ≠ [] := fun e => hne (by subst e; cases r; rfl)
  have hi : its.toArray.isEmpty = false := by
    cases its with
    | nil => exact absurd rfl hn
    | cons a b => rfl
  have c0 : (decide (k < -(2 ^ 63)) || decide (k ≥ 2 ^ 63)) = false := by
    rw [decide_eq_false (by omega), decide_eq_false (by omega)] <;> rfl
  have c1 : (its.toArray.isEmpty || k == 1) = false := by
    rw [hi, Bool.false_or]
    exact beq_eq_false_iff_ne.mpr (by omega)
  have c2 : (decide (k ≤ 0) || its.toArray.isEmpty) = true := by
    rw [Bool.or_eq_true]; exact .inl (decide_eq_true h2)
  refine wpAny_binaryOp_repeat_ref (T := "tuple") (U := "int") (by decide) ⟨_, ho, rfl⟩ (fun s' => typeIs_int s' k t) noFill_tuple_mul F.fills_int_mul F.slot_int_rmul repeat_tuple F.slot_int_index.lookup
    (call_meets F.slot_int_rmul (typeIs_int s k t) F.entry_int_rmul (F.args_int_rmul_2 _ _) (int_rmul_tuple k t l its.toArray n dd sl)
      ⟨ho, rfl, ⟨_, ho, rfl⟩, call_meets F.slot_tuple_mul ⟨_, ho, rfl⟩ F.entry_tuple_mul (F.args_tuple_mul_2 _ _) (tmul_none l its.toArray n dd sl k t c0 c1 c2) ⟨ho, ?_⟩⟩)
  refine ⟨.ref s.heap.objs.size, _, I.laid (t' := s.toks) (o := .tup []) (fun b ob q => Heap.get?_push_of_some _ q) (Nat.le_refl _) ?_, rfl, q _ (I.hok.fresh (Nat.le_refl _))⟩
  exact ⟨Nat.zero_le _, [], .nil, IsTup.new _ _⟩
end
end DL
namespace DL
open PySem PySem.Spec PyProof.Rows
open Sem (wp)
theorem wpAny_guards {α : Type} {M : Model} {A : Around} {f : Sem α} {Q : α → Shared → Prop} {E : Value → Shared → Prop} {s : Shared} (h : ∀ g, wpAny M { A with guards := some g } f Q E s) : wpAny M A f Q E s :=
  fun Γ p hΓ => h (Γ.code.guards ++ guardsOf Γ.below) Γ p ⟨hΓ.1, hΓ.2.1, hΓ.2.2.1, fun g e => by cases e; rfl, hΓ.2.2.2.2⟩
noncomputable def okT (t : Str) : Prop := ∀ c ∈ t.cps.toList, c < 1114112
theorem okT.append {a b : Str} (h : okT a) (k : okT b) : okT (a ++ b) := fun c hc => by
  have e : (a ++ b).cps.toList = a.cps.toList ++ b.cps.toList := Array.toList_append
  rw [e] at hc
  exact (List.mem_append.mp hc).elim (h c) (k c)
theorem okT.join {sep : Str} (hs : okT sep) : ∀ {ts : List Str}, (∀ t ∈ ts, okT t) → okT (Str.join sep ts)
  | [], _ => fun c hc => by cases hc
  | [x], h => h x List.mem_cons_self
  | x :: y :: r, h => ((h x List.mem_cons_self).append hs).append (okT.join hs fun t ht => h t (List.mem_cons_of_mem _ ht))
theorem okT.ofB {t : Str} (h : (t.cps.toList.all fun c => decide (c < 1114112)) = true) : okT t := fun c hc => of_decide_eq_true (List.all_eq_true.mp h c hc)
theorem okT.toB {t : Str} (h : okT t) : (t.cps.toList.all fun c => decide (c < 1114112)) = true := List.all_eq_true.mpr fun c hc => decide_eq_true (h c hc)
theorem okT.tup {ts : List Str} (h : ∀ t ∈ ts, okT t) : okT (tupleText ts) := by
  unfold tupleText
  refine okT.append (okT.append (okT.ofB (by decide +kernel)) (okT.join (okT.ofB (by decide +kernel)) h)) ?_
  split <;> exact okT.ofB (by decide +kernel)
mutual
noncomputable def shP : PyData → Bool
  | .int i => decide (0 ≤ i) && decide (i ≤ 1000)
  | .str s => decide (s.cps.toList ∈ shWords)
  | .tuple xs => shPs xs
  | _ => false
noncomputable def shPs : List PyData → Bool
  | [] => true
  | x :: xs => shP x && shPs xs
end
mutual
noncomputable def shN : PyData → Nat
  | .tuple xs => 5 + shNs xs
  | _ => 8
noncomputable def shNs : List PyData → Nat
  | [] => 0
  | x :: xs => shN x + 2 + shNs xs
end
noncomputable def isG (g : List Code) (a : Addr) : Bool := g.any fun c => tupGuardF (.ref a) (c, default)
theorem tupleText_len (ts : List Str) : (tupleText ts).length ≤ 5 + piled ts := by
  have e0 : (Str.ofString "(").length = 1 := by decide
  have e2 : ∀ b : Bool, (Str.ofString (if b then ",)" else ")")).length ≤ 2 := by decide
  unfold tupleText
  rw [strLen_append, strLen_append]
  have h2 := e2 (ts.length == 1)
  have e1 : (Str.join ", " ts).length ≤ piled ts := by
    cases ts with
    | nil => exact Nat.zero_le _
    | cons t r => have := join_length_add (t :: r) (by simp); omega
  have h0 : ("(" : Str).length = 1 := e0
  have h3 : ((if ts.length == 1 then ",)" else ")" : String) : Str).length ≤ 2 := h2
  omega
section
variable {prog : Program} {w : World} {h₀ : Heap} {g0 : List Code}
noncomputable def RG (prog : Program) (w : World) (g0 : List Code) (as : List Addr) (h₀ : Heap) (d : Nat) (x : Value) (t : Str) : Prop :=
  ∀ (base : Nat), base + t.length ≤ sizeLine → ∀ (A : Around) (g : List Code) (E : Value → Shared → Prop) (s : Shared) (Q : Str → Shared → Prop), A.guards = some (g ++ g0) → (∀ b ∈ as, Clear g b) → A.units + d < cLine → (∀ b o, h₀.get? b = some o → s.heap.get? b = some o) →
    (∀ tk, Q t { s with toks := tk }) → wpAny (model prog w) A (pyReprUnder base x) Q E s
theorem RG.of_is {x : Value} {t : Str} (h : ReprIs prog w x t) (as : List Addr) (d : Nat) : RG prog w g0 as h₀ d x t :=
  fun base hb A _ E s Q _ _ _ _ hQ => h base hb A E s Q hQ
theorem RG.more {as as' : List Addr} {d d' : Nat} {x : Value} {t : Str} (h : RG prog w g0 as h₀ d x t) (hsub : ∀ b ∈ as, b ∈ as') (hd : d ≤ d') : RG prog w g0 as' h₀ d' x t :=
  fun base hz A g E s Q hg hcl hu hk hQ => h base hz A g E s Q hg (fun b hb => hcl b (hsub b hb)) (by omega) hk hQ
inductive RGA (prog : Program) (w : World) (g0 : List Code) (as : List Addr) (h₀ : Heap) (d : Nat) : List Value → List Str → Prop
  | nil : RGA prog w g0 as h₀ d [] []
  | cons {x : Value} {t : Str} {l : List Value} {ts : List Str} : RG prog w g0 as h₀ d x t → RGA prog w g0 as h₀ d l ts → RGA prog w g0 as h₀ d (x :: l) (t :: ts)
theorem RGA.length_eq {as : List Addr} {d : Nat} : ∀ {l : List Value} {ts : List Str}, RGA prog w g0 as h₀ d l ts → ts.length = l.length
  | _, _, .nil => rfl
  | _, _, .cons _ h => by simp [h.length_eq]
theorem RGA.more {as as' : List Addr} {d d' : Nat} (hsub : ∀ b ∈ as, b ∈ as') (hd : d ≤ d') : ∀ {l : List Value} {ts : List Str}, RGA prog w g0 as h₀ d l ts → RGA prog w g0 as' h₀ d' l ts
  | _, _, .nil => .nil
  | _, _, .cons h t => .cons (h.more hsub hd) (t.more hsub hd)
theorem fold_rg {A : Around} {E : Value → Shared → Prop} {as : List Addr} {d : Nat} {g : List Code} (hg : A.guards = some (g ++ g0)) (hcl : ∀ b ∈ as, Clear g b) (hu : A.units + d < cLine) :
    ∀ (l : List Value) (ts : List Str) (acc : Array Str) (n : Nat) (s : Shared) (Q : (Array Str × Nat) → Shared → Prop), RGA prog w g0 as h₀ d l ts → n + piled ts ≤ sizeLine →
    (∀ b o, h₀.get? b = some o → s.heap.get? b = some o) → (∀ tk, Q ⟨acc ++ ts.toArray, n + piled ts⟩ { s with toks := tk }) →
    wpAny (model prog w) A (forIn l (⟨acc, n⟩ : (Array Str × Nat)) tupBody) Q E s := by
  intro l
  induction l with
  | nil =>
    intro ts acc n s Q hT _ _ h
    cases hT
    have h0 := h s.toks
    simp only [List.forIn_nil]
    exact wpAny_pure (by simpa [piled] using h0)
  | cons x l ih =>
    intro ts acc n s Q hT hn hk0 h
    cases hT with
    | cons hx hl =>
      rename_i t ts'
      rw [piled_cons] at hn
      rw [List.forIn_cons]
      refine wpAny_bind (wpAny_bind (hx (n + 1) (by omega) _ _ _ _ _ hg hcl hu hk0 fun tk => wpAny_pure ?_))
      refine ih ts' (acc.push t) (n + (t.length + 2)) _ Q hl (by omega) hk0 fun tk' => ?_
      have h1 := h tk'
      have e : n + piled (t :: ts') = n + (t.length + 2) + piled ts' := by rw [piled_cons]; omega
      rw [e] at h1
      simpa using h1
noncomputable def TupG (prog : Program) (w : World) (g0 : List Code) (a : Addr) (bs : List Addr) (h₀ : Heap) (d : Nat) (items : List Value) (t : Str) : Prop :=
  (isG g0 a = true ∧ t = "(...)") ∨ (isG g0 a = false ∧ ∃ as ts, bs = a :: as ∧ a ∉ as ∧ RGA prog w g0 as h₀ d items ts ∧ t = tupleText ts)
theorem own_tupG {bs : List Addr} {d : Nat} {a : Addr} {o : Obj} {items : Array Value} {n : Nat} {t : Str}
    (ha : h₀.get? a = some o) (hd : o.data = .seq items n) (hT : TupG prog w g0 a bs h₀ d items.toList t)
    {A : Around} {g : List Code} {s : Shared} {R : Result → Shared → Prop} {base : Nat} {id : String} {rest : List Value}
    (hcg : (Code.builtin id ⟨.ref a :: rest, []⟩).isGuard = true) (hcu : (A.under (.builtin id ⟨.ref a :: rest, []⟩)).units = A.units + 1)
    (hg : A.guards = some (g ++ g0)) (hcl : ∀ b ∈ bs, Clear g b) (hu : A.units + (d + 1) < cLine) (hk0 : ∀ b o, h₀.get? b = some o → s.heap.get? b = some o)
    (hR : ∀ u tk, R (.ok (.ret (.str t u))) { s with toks := tk })
    (hsz : base + t.length ≤ sizeLine) :
    wpOwn (model prog w) A (.builtin id ⟨.ref a :: rest, []⟩) (Builtin.tupleReprAt base ⟨[.ref a], []⟩) (fun fin s' => match fin with | .done f => R (.ok f) s' | .again c' => c'.quiet = true ∧ codeAny (model prog w) A c' R s') (fun e s' => R (.error e) s') s := by
  rw [tuple_repr_tree, tupleReprUnderWay_eq]
  refine wpOwn_bind (wpOwn_stackTailAny hg (tupGuardF_off _) (tupGuardF_pos _) ?_)
  rcases hT with ⟨h1, rfl⟩ | ⟨h1, as, ts, rfl, hna, hT, rfl⟩
  · have hn : ((g ++ g0).any fun c => tupGuardF (.ref a) (c, default)) = true := by
      rw [List.any_append, show (g0.any fun c => tupGuardF (.ref a) (c, default)) = true from h1, Bool.or_true]
    rw [hn]
    refine wpOwn_of_wpAny ?_
    show wpAny _ _ (do rule "tuple.repr.in-itself"; retStr "(...)") _ _ s
    refine wpAny_bind (wpAny_rule ?_)
    unfold retStr
    exact wpAny_bind (wpAny_mkStr (wpAny_pure (hR _ _)) (by decide))
  · have hca : Clear g a := hcl a (.head _)
    have hlen : ts.length = items.size := by simpa using hT.length_eq
    have hp := piled_le_tupleText ts
    have hsz0 : (tupleText ts).length ≤ sizeLine := by omega
    have hn : ((g ++ g0).any fun c => tupGuardF (.ref a) (c, default)) = false := by
      rw [List.any_append, show (g0.any fun c => tupGuardF (.ref a) (c, default)) = false from h1, Bool.or_false, List.any_eq_false]
      intro c hcm
      rw [tupGuardF_of_clear hca c hcm]
      exact Bool.false_ne_true
    rw [hn]
    refine wpOwn_of_wpAny ?_
    show wpAny _ _ (tupleReprRest base (.ref a)) _ _ s
    unfold tupleReprRest Builtin.Tuple.tupleItemsOf
    refine wpAny_bind (wpAny_bind (wpAny_seqItems (hk0 _ _ ha) hd (wpAny_pure ?_)))
    rw [← Array.forIn_toList]
    refine wpAny_bind (fold_rg (g := _ :: g) (guards_under_guard hcg hg) (fun b hb => (hcl b (.tail _ hb)).cons (a := a) fun e => hna (e ▸ hb)) (by rw [hcu]; omega) _ ts _ _ _ _ hT (by omega) hk0 fun tk => ?_)
    refine wpAny_bind (wpAny_mkStr (wpAny_pure ?_) (by simpa [tupleText, hlen] using hsz0))
    have h1 := hR tk (tk + 1)
    simpa [tupleText, hlen] using h1
theorem call_tupG {bs : List Addr} {d : Nat} {a : Addr} {o : Obj} {items : Array Value} {n : Nat} {t : Str}
    (ha : h₀.get? a = some o) (hc : o.cls = .type "tuple") (hd : o.data = .seq items n) (hT : TupG prog w g0 a bs h₀ d items.toList t)
    {A : Around} {g : List Code} {E : Value → Shared → Prop} {s : Shared} {Q : Value → Shared → Prop}
    (hg : A.guards = some (g ++ g0)) (hcl : ∀ b ∈ bs, Clear g b) (hu : A.units + (d + 1) < cLine) (hk0 : ∀ b o, h₀.get? b = some o → s.heap.get? b = some o)
    (hQ : ∀ u tk, Q (.str t u) { s with toks := tk }) (hsz : t.length ≤ sizeLine) :
    wpAny (model prog w) A (call (.builtin "tuple.__repr__") [.ref a]) Q E s :=
  wpAny_call (codeAny_call_builtin_own (Code.quiet_builtin _ (by decide +kernel)) F.entry_tuple_repr (F.slot_tuple_repr.check _ _ _ _ _ _ _ _ ⟨o, hk0 _ _ ha, hc⟩ (F.args_tuple_repr_1 _)
    (own_tupG (base := 0) (R := callEnd Q E) ha hd hT (isGuard_tuple_repr _) (units_under_tuple_repr _ _) hg hcl hu hk0 hQ (by omega))))
theorem RG.tuple {bs : List Addr} {d : Nat} {a : Addr} {o : Obj} {items : Array Value} {n : Nat} {t : Str}
    (ha : h₀.get? a = some o) (hc : o.cls = .type "tuple") (hd : o.data = .seq items n) (hT : TupG prog w g0 a bs h₀ d items.toList t) : RG prog w g0 bs h₀ (d + 1) (.ref a) t := by
  intro base hb A g E s Q hg hcl hu hk0 hQ
  refine wpAny_pyReprUnder_ref (by omega) ?_
  refine wpAny_pyReprObjUnder_twin (twin := "tuple.__repr__.under") ⟨o, hk0 _ _ ha, hc⟩ F.slot_tuple_repr rfl (by omega) ?_
  refine call_twin_own (F.quiet_tuple_repr_under _) F.entry_tuple_repr_under F.check_tuple_repr_under ⟨o, hk0 _ _ ha, hc⟩ F.slot_tuple_repr (F.args_tuple_repr_1 _) ?_
  exact own_tupG (R := callEnd _ E) ha hd hT (isGuard_tuple_repr_under _) (units_under_tuple_repr_under _ _) hg hcl hu hk0 (fun u tk => ⟨⟨_, _, rfl⟩, _, _, rfl, hQ tk⟩) hb
theorem int_text : ∀ n : Fin 1001, (toString ((n.val : Nat) : Int) : String).length ≤ 4 ∧ ((Str.ofString (toString ((n.val : Nat) : Int))).length ≤ 8 ∧ ((Str.ofString (toString ((n.val : Nat) : Int))).cps.toList.all fun c => decide (c < 1114112)) = true) := by
  decide +kernel
theorem word_text : ∀ s ∈ shWords, (reprText ⟨s.toArray⟩).length ≤ 8 ∧ ((reprText ⟨s.toArray⟩).cps.toList.all fun c => decide (c < 1114112)) = true := by
  decide +kernel
mutual
theorem rg_reads : ∀ {v : Value} {d : PyData} {as : List Addr}, Reads h₀ v d as → shP d = true → shN d ≤ sizeLine → ∃ t bs, ReadAtMost h₀ d.depth bs ∧ (∀ prog w, RG prog w g0 bs h₀ d.depth v t) ∧ okT t ∧ t.length ≤ shN d
  | _, _, _, .none, h, _ => by cases h
  | _, _, _, .bool b, h, _ => by cases h
  | _, _, _, .int i t, h, _ => by
    have h : (decide (0 ≤ i) && decide (i ≤ 1000)) = true := h
    rw [Bool.and_eq_true, decide_eq_true_iff, decide_eq_true_iff] at h
    obtain ⟨n, rfl⟩ := Int.eq_ofNat_of_zero_le h.1
    obtain ⟨_, h2, h3⟩ := int_text ⟨n, by omega⟩
    refine ⟨_, [], (fun _ h => nomatch h), fun prog w => RG.of_is (ReprIs.int t ?_) _ _, okT.ofB h3, h2⟩
    exact Nat.lt_of_le_of_lt (Nat.log2_le_self _) (by omega)
  | _, _, _, .str x t, h, _ => by
    have h : decide (x.cps.toList ∈ shWords) = true := h
    obtain ⟨h2, h3⟩ := word_text _ (of_decide_eq_true h)
    have e : (⟨x.cps.toList.toArray⟩ : Str) = x := by cases x; rfl
    rw [e] at h2 h3
    exact ⟨_, [], (fun _ h => nomatch h), fun prog w => RG.of_is (ReprIs.str x t (Nat.le_trans h2 (by decide))) _ _, okT.ofB h3, h2⟩
  | _, _, _, .list .., h, _ => by cases h
  | _, _, _, .dict .., h, _ => by cases h
  | _, _, _, .tuple (a := a) (o := o) (vs := vs) (n := n) (xs := xs) h1 h2 h3 h4, h, hz => by
    have hz : 5 + shNs xs ≤ sizeLine := hz
    obtain ⟨ts, bs, hb, hk, ho, hl⟩ := rgs_reads h4 h (by omega)
    have r : Reads h₀ (.ref a) (.tuple xs) _ := .tuple h1 h2 h3 h4
    have hna : a ∉ bs := not_mem_of_deeper r (by simp only [PyData.depth]; omega) hb
    cases hG : isG g0 a with
    | true => exact ⟨"(...)", [], (fun _ h => nomatch h), fun prog w => by simp only [PyData.depth]; exact RG.tuple h1 h2 h3 (.inl ⟨hG, rfl⟩), okT.ofB (by decide +kernel), by show 5 ≤ 5 + shNs xs; omega⟩
    | false =>
      refine ⟨tupleText ts, a :: bs, ReadAtMost.cons r (by simp only [PyData.depth]; omega) hb, fun prog w => ?_, okT.tup ho, ?_⟩
      · simp only [PyData.depth]
        exact RG.tuple h1 h2 h3 (.inr ⟨hG, bs, ts, rfl, hna, hk prog w, rfl⟩)
      · have := tupleText_len ts
        show _ ≤ 5 + shNs xs
        omega
theorem rgs_reads : ∀ {vs : List Value} {ds : List PyData} {as : List Addr}, ReadsAll h₀ vs ds as → shPs ds = true → shNs ds ≤ sizeLine →
    ∃ ts bs, ReadAtMost h₀ (PyData.depthAll ds) bs ∧ (∀ prog w, RGA prog w g0 bs h₀ (PyData.depthAll ds) vs ts) ∧ (∀ t ∈ ts, okT t) ∧ piled ts ≤ shNs ds
  | _, _, _, .nil, _, _ => ⟨[], [], (fun _ h => nomatch h), fun _ _ => .nil, (fun _ h => nomatch h), Nat.zero_le _⟩
  | _, _, _, .cons (d := d) (ds := ds) r rs, h, hz => by
    have h : (shP d && shPs ds) = true := h
    rw [Bool.and_eq_true] at h
    have hz : shN d + 2 + shNs ds ≤ sizeLine := hz
    obtain ⟨t, b1, hb1, k1, o1, l1⟩ := rg_reads r h.1 (by omega)
    obtain ⟨ts, b2, hb2, k2, o2, l2⟩ := rgs_reads rs h.2 (by omega)
    refine ⟨t :: ts, b1 ++ b2, ?_, fun prog w => ?_, List.forall_mem_cons.mpr ⟨o1, o2⟩, ?_⟩
    · intro b hm
      simp only [PyData.depthAll]
      rcases List.mem_append.mp hm with hm | hm
      · obtain ⟨d', as', r', hd'⟩ := hb1 b hm
        exact ⟨d', as', r', Nat.le_trans hd' (Nat.le_max_left _ _)⟩
      · obtain ⟨d', as', r', hd'⟩ := hb2 b hm
        exact ⟨d', as', r', Nat.le_trans hd' (Nat.le_max_right _ _)⟩
    · simp only [PyData.depthAll]
      exact .cons ((k1 prog w).more (fun b hb => List.mem_append_left _ hb) (Nat.le_max_left _ _)) ((k2 prog w).more (fun b hb => List.mem_append_right _ hb) (Nat.le_max_right _ _))
    · rw [piled_cons]
      show _ ≤ shN d + 2 + shNs ds
      omega
end
theorem str_tup {a : Addr} {xs : List PyData} {as : List Addr} {A : Around} {E : Value → Shared → Prop} {s : Shared} {Q : Value → Shared → Prop} (r : Reads h₀ (.ref a) (.tuple xs) as) (hs : shPs xs = true) (hz : 5 + shNs xs ≤ sizeLine) (hu : A.units + (PyData.depthAll xs + 5) < cLine)
    (hk0 : ∀ b o, h₀.get? b = some o → s.heap.get? b = some o) (hQ : ∀ t, okT t → ∀ u tk, Q (.str t u) { s with toks := tk }) : wpAny (model prog w) A (call (.type "str") [.ref a]) Q E s := by
  refine wpAny_guards fun g => ?_
  cases r with
  | tuple h1 h2 h3 h4 =>
    rename_i o vs n
    obtain ⟨ts, bs, hb, hk, ho, hl⟩ := rgs_reads (g0 := g) h4 hs (by omega)
    have r : Reads h₀ (.ref a) (.tuple xs) _ := .tuple h1 h2 h3 h4
    have hna : a ∉ bs := not_mem_of_deeper r (by simp only [PyData.depth]; omega) hb
    obtain ⟨t, bs', hT, ot, lt⟩ : ∃ t bs', (∀ prog w, TupG prog w g a bs' h₀ (PyData.depthAll xs) vs.toList t) ∧ okT t ∧ t.length ≤ 5 + shNs xs := by
      cases hG : isG g a with
      | true => exact ⟨"(...)", [], fun prog w => .inl ⟨hG, rfl⟩, okT.ofB (by decide +kernel), by show 5 ≤ 5 + shNs xs; omega⟩
      | false => exact ⟨tupleText ts, a :: bs, fun prog w => .inr ⟨hG, bs, ts, rfl, hna, hk prog w, rfl⟩, okT.tup ho, Nat.le_trans (tupleText_len ts) (by omega)⟩
    exact callType_new F.called_str (by decide) (F.typeCall_str_1 _) (F.newCall_str_1 _) (fun obj => F.args_object_init_2 obj _) F.entry_str_new
      (meets_str_new (S := fun A' R s' => A'.guards = some g ∧ A'.units + (PyData.depthAll xs + 4) < cLine ∧ (∀ b o, h₀.get? b = some o → s'.heap.get? b = some o) ∧
          ∀ u tk, R (.ok (.ret (.str t u))) { s' with toks := tk })
        fun prog' w' A' R s' h => wpAny_strOf_slot rfl (by show A'.units + 1 + 1 < cLine; have := h.2.1; omega) ⟨o, h.2.2.1 _ _ h1, h2⟩ F.slot_tuple_str F.slot_tuple_repr
          (call_tupG (g := []) h1 h2 h3 (hT prog' w') h.1 (fun b _ => Clear.nil b) (by show A'.units + 1 + 1 + (PyData.depthAll xs + 1) < cLine; have := h.2.1; omega) h.2.2.1 (fun u tk => ⟨_, _, rfl, h.2.2.2 u tk⟩) (by omega)))
      ⟨rfl, by show A.units + 1 + (PyData.depthAll xs + 4) < cLine; omega, hk0, fun u tk => ⟨typeIs_str _ _ _, hQ t ot u tk⟩⟩
end
end DL
namespace DL
open PySem L2 PySem.Spec PyProof.Rows
noncomputable def KVof (K : Frag) (cx : Cls2) (S : Hs) (H : Hp) (Q : VK) : VK2 := fun z S' => ∀ v H', Rel K cx S' H' → Keep S S' H H' → RepR K H H' S' z v → Q v H'
noncomputable def r1of (K : Frag) (cx : Cls2) (f : Vx → Hs → VK2 → Prop) : V → Hp → VK → Prop := fun x H Q => ∃ S a, Rel K cx S H ∧ RepX K H S a x ∧ f a S (KVof K cx S H Q)
noncomputable def r2of (K : Frag) (cx : Cls2) (f : Vx → Vx → Hs → VK2 → Prop) : R2 := fun x y H Q => ∃ S a b, Rel K cx S H ∧ RepX K H S a x ∧ RepX K H S b y ∧ f a b S (KVof K cx S H Q)
section
variable {K : Frag} {cx : Cls2} {S S' : Hs} {H H' H0 : Hp} {Q : VK}
theorem fin {z : Vx} {v : V} (k : KVof K cx S H Q z S) (hr : Rel K cx S H) (r : RepX K H S z v) (n : own z = false) : Q v H := k v H hr .refl ⟨r, fun e => by rw [n] at e; cases e⟩
theorem fin_d {x : D} {v : V} (k : KVof K cx S H Q (.d x) S) (hr : Rel K cx S H) (r : RepV K H x v) : Q v H := fin k hr r rfl
theorem fin_bl {b : Bool} (k : KVof K cx S H Q (.d (.bl b)) S) (hr : Rel K cx S H) : Q (.bl b) H := fin_d k hr rfl
theorem fin_int {i : Int} (k : KVof K cx S H Q (.d (.int i)) S) (hr : Rel K cx S H) : Q (.int i) H := fin_d k hr rfl
theorem fin_tup {ds : List D} {vs : List V} (k : KVof K cx S H Q (.d (.tup ds)) S) (hr : Rel K cx S H) (r : RepL K H ds vs) (p : Addr) (n : H p = none) : Q (.ref p) (upd H p (.tup vs)) :=
  k _ _ (hr.upd0 (hr.free n) (tupS_new n)) (.new n) ⟨⟨p, vs, rfl, SqT.of upd_same, r.keep (tupS_new n)⟩, fun e => by cases e⟩
theorem fin_vl {ds : List D} {vs : List V} (k : KVof K cx S H Q (.vl ds) S) (hr : Rel K cx S H) (r : RepL K H ds vs) (p : Addr) (n : H p = none) : Q (.ref p) (upd H p (.lst vs)) :=
  k _ _ (hr.upd0 (hr.free n) (tupS_new n)) (.new n) ⟨⟨p, vs, rfl, upd_same, hr.free n, r.keep (tupS_new n)⟩, fun _ => ⟨p, rfl, n⟩⟩
noncomputable def CnR (K : Frag) (cx : Cls2) (H : Hp) : Cn → V → Prop
  | .l ds, v => ∃ a vs, v = .ref a ∧ H a = some (.lst vs) ∧ RepL K H ds vs
  | .f ds, v => ∃ a vs, v = .ref a ∧ SqL K H a vs ∧ RepL K H ds vs
  | .t ds, v => ∃ a vs, v = .ref a ∧ SqT K H a vs ∧ RepL K H ds vs
  | .s cs, v => v = .str (sv cs)
  | .k kvs, v => ∃ a ks, v = .ref a ∧ H a = some (.dK ks) ∧ DicR K H kvs ks
  | .kn kvs, v => ∃ a xs, v = .ref a ∧ H a = some (dnO cx.w a xs) ∧ DnOk K H a kvs xs
  | .kfn kvs, v => ∃ a xs o, v = .ref a ∧ H a = some (.frz o (dnO cx.w a xs)) ∧ DnOk K H a kvs xs
  | .kf kvs, v => ∃ a ks o, v = .ref a ∧ H a = some (.frz o (.dK ks)) ∧ DicR K H kvs ks
  | .i c fs, v => ∃ a, v = .ref a ∧ RelO K cx H a (.ins c fs)
  | .e _, _ => False
theorem view_of {x : Vx} {v : V} {P : Cn → Prop} (hr : Rel K cx S H) (r : RepX K H S x v) (w : view x S P) : ∃ c, P c ∧ CnR K cx H c v := by
  cases x with
  | d y =>
    cases y with
    | ref a =>
      obtain ⟨o, e, q⟩ := w
      refine ⟨_, q, ?_⟩
      cases r
      have z := hr a o e
      cases o with
      | lst ds => obtain ⟨vs, h, r⟩ := z; exact ⟨a, vs, rfl, h, r⟩
      | dic kvs => obtain ⟨ks, h, r⟩ := z; exact ⟨a, ks, rfl, h, r⟩
      | fdc kvs y => obtain ⟨h, o, ks, e1, r⟩ := z; subst e1; exact ⟨a, ks, o, rfl, h, r⟩
      | dn kvs => obtain ⟨xs, h, r⟩ := z; exact ⟨a, xs, rfl, h, r⟩
      | fdn kvs y xs => obtain ⟨h, o, e1, r⟩ := z; subst e1; exact ⟨a, xs, o, rfl, h, r⟩
      | ins c fs => exact ⟨a, rfl, z⟩
    | str s => exact ⟨_, w, r⟩
    | tup ds => exact ⟨_, w, r⟩
    | xt ds => obtain ⟨a, vs, rfl, h, r⟩ := r; exact ⟨_, w, a, vs, rfl, h.t, r⟩
    | non => exact w.elim
    | bl b => exact w.elim
    | int i => exact w.elim
  | vl ds => obtain ⟨a, vs, rfl, h, n, r⟩ := r; exact ⟨_, w, a, vs, rfl, h, r⟩
  | fz ds => obtain ⟨a, vs, rfl, h, r⟩ := r; exact ⟨_, w, a, vs, rfl, fz_sql h, r⟩
  | bw ds => obtain ⟨a, vs, rfl, h, n, r⟩ := r; exact ⟨_, w, a, vs, rfl, h, r⟩
  | vd ds => obtain ⟨a, vs, rfl, h, n, r⟩ := r; exact ⟨_, w, a, vs, rfl, h, r⟩
  | bd ds => obtain ⟨a, vs, rfl, h, n, r⟩ := r; exact ⟨_, w, a, vs, rfl, h, r⟩
  | st ds => exact r.elim
end
section
variable {X : Cx} {cx : Cls2}
theorem rI_elim {C : Int → Int → Prop} {g : Int → Int → V} {f : Int → Int → VK2 → Hs → Prop} {gd : Int → Int → D} (hg : ∀ i j H, RepV X.K H (gd i j) (g i j)) (hf : ∀ i j Q S, f i j Q S → C i j ∧ Q (.d (gd i j)) S) {x y : V} {H : Hp} {Q : VK}
    (w : r2of X.K cx (intD f) x y H Q) : rI C g x y H Q := by
  obtain ⟨S, a, b, hr, ra, rb, w⟩ := w
  unfold intD at w
  split at w
  · cases ra
    cases rb
    obtain ⟨h1, h2⟩ := hf _ _ _ _ w
    exact ⟨_, _, rfl, rfl, h1, fin_d h2 hr (hg _ _ _)⟩
  · exact w.elim
theorem rI0_elim {g : Int → Int → V} {f : Int → Int → VK2 → Hs → Prop} {gd : Int → Int → D} (hg : ∀ i j H, RepV X.K H (gd i j) (g i j)) (hf : ∀ i j Q S, f i j Q S → Q (.d (gd i j)) S) {x y : V} {H : Hp} {Q : VK}
    (w : r2of X.K cx (intD f) x y H Q) : rI0 g x y H Q := by
  obtain ⟨i, j, h1, h2, _, h3⟩ := rI_elim (C := fun _ _ => True) hg (fun i j Q S h => ⟨trivial, hf i j Q S h⟩) w
  exact ⟨i, j, h1, h2, h3⟩
theorem opImp {f : Value → Value → Sem Value} {r r' : R2} (h : OpR X f r) (i : ∀ x y H Q, r' x y H Q → r x y H Q) : OpR X f r' := fun pins s σ H x y v u Q I rx ry w => h pins s σ H x y v u Q I rx ry (i _ _ _ _ w)
theorem op2_sub : OpR X (binaryOp .Sub) (r2of X.K cx (op2D .sub)) := opImp op_sub fun x y H Q w => rI0_elim (gd := fun i j => .int (i - j)) (fun _ _ _ => rfl) (fun _ _ _ _ h => h) w
theorem op2_mod : OpR X (binaryOp .Mod) (r2of X.K cx (op2D .mod)) := opImp op_mod fun x y H Q w => rI_elim (gd := fun i j => .int (i % j)) (fun _ _ _ => rfl) (fun _ _ _ _ h => h) w
theorem op2_fdiv : OpR X (binaryOp .FloorDiv) (r2of X.K cx (op2D .fdiv)) := opImp op_fdivW fun x y H Q w => rI_elim (gd := fun i j => .int (i / j)) (fun _ _ _ => rfl) (fun _ _ _ _ h => h) w
theorem op2_pow : OpR X (binaryOp .Pow) (r2of X.K cx (op2D .pow)) := opImp op_pow fun x y H Q w => rI_elim (gd := fun i j => .int (i ^ j.toNat)) (fun _ _ _ => rfl) (fun _ _ _ _ h => h) w
theorem op2_lt : OpR X (compareOp .Lt) (r2of X.K cx (op2D .lt)) := opImp op_lt fun x y H Q w => rI0_elim (gd := fun i j => .bl (decide (i < j))) (fun _ _ _ => rfl) (fun _ _ _ _ h => h) w
theorem op2_le : OpR X (compareOp .LtE) (r2of X.K cx (op2D .le)) := opImp op_le fun x y H Q w => rI0_elim (gd := fun i j => .bl (decide (i ≤ j))) (fun _ _ _ => rfl) (fun _ _ _ _ h => h) w
theorem op2_gt : OpR X (compareOp .Gt) (r2of X.K cx (op2D .gt)) := opImp op_gt fun x y H Q w => rI0_elim (gd := fun i j => .bl (decide (j < i))) (fun _ _ _ => rfl) (fun _ _ _ _ h => h) w
theorem op2_ge : OpR X (compareOp .GtE) (r2of X.K cx (op2D .ge)) := opImp op_ge fun x y H Q w => rI0_elim (gd := fun i j => .bl (decide (j ≤ i))) (fun _ _ _ => rfl) (fun _ _ _ _ h => h) w
theorem sv_append (a b : List Nat) : sv a ++ sv b = sv (a ++ b) := by
  show (⟨a.toArray ++ b.toArray⟩ : Str) = ⟨(a ++ b).toArray⟩
  simp
theorem sv_length (a : List Nat) : (sv a).length = a.length := by
  show a.toArray.size = a.length
  simp
theorem op2_add : OpR X (binaryOp .Add) (r2of X.K cx (op2D .add)) := by
  intro pins s σ H x y v u Q I rx ry w
  obtain ⟨S, a, b, hr, ra, rb, w⟩ := w
  have w : addD a b S (KVof X.K cx S H Q) := w
  unfold addD at w
  split at w
  · cases ra
    cases rb
    exact op_add pins s σ H _ _ v u Q I rx ry ⟨_, _, rfl, rfl, fin_int w hr⟩
  · cases ra
    cases rb
    refine op_add_str pins s σ H _ _ v u Q I rx ry ⟨_, _, rfl, rfl, by rw [sv_length, sv_length]; exact w.1, ?_⟩
    rw [sv_append]
    exact fin_d w.2 hr rfl
  · rename_i S as bs Q'
    obtain ⟨p, vs, rfl, hp, r1⟩ := ra
    obtain ⟨q, us, rfl, hq, r2⟩ := rb
    refine op_catA pins s σ H _ _ v u Q I rx ry ⟨p, q, vs, us, rfl, rfl, hp, hq, by rw [← r1.length, ← r2.length]; exact w.1, fun e => ?_, fun _ e => ?_, fun _ _ => fin_tup w.2 hr (r1.append r2)⟩
    · subst e
      have h := r1.length
      have h0 : as = [] := List.length_eq_zero_iff.mp h
      subst h0
      exact fin_d w.2 hr ⟨q, us, rfl, hq, r2⟩
    · subst e
      have h := r2.length
      have h0 : bs = [] := List.length_eq_zero_iff.mp h
      subst h0
      refine fin_d w.2 hr ⟨p, vs, rfl, hp, ?_⟩
      rw [List.append_nil]
      exact r1
  · obtain ⟨c, w, hc⟩ := view_of hr ra w
    obtain ⟨c', w, hc'⟩ := view_of hr rb w
    cases c <;> cases c' <;> first | exact w.elim | skip
    obtain ⟨p, vs, rfl, hp, r1⟩ := hc
    obtain ⟨q, us, rfl, hq, r2⟩ := hc'
    exact op_cat pins s σ H _ _ v u Q I rx ry ⟨p, q, vs, us, rfl, rfl, hp, hq, by rw [← r1.length, ← r2.length]; exact w.1, fin_vl w.2 hr (r1.append r2)⟩
theorem op2_mul : OpR X (binaryOp .Mult) (r2of X.K cx (op2D .mul)) := by
  intro pins s σ H x y v u Q I rx ry w
  obtain ⟨S, a, b, hr, ra, rb, w⟩ := w
  have w : mulD a b S (KVof X.K cx S H Q) := w
  unfold mulD at w
  split at w
  · cases ra
    cases rb
    rcases w.1 with h | h
    · exact op_mul pins s σ H _ _ v u Q I rx ry ⟨_, _, rfl, rfl, h, fin_int w.2 hr⟩
    · exact op_mulW pins s σ H _ _ v u Q I rx ry ⟨_, _, rfl, rfl, h, fin_int w.2 hr⟩
  · obtain ⟨p, vs, rfl, hp, r1⟩ := ra
    cases rb
    obtain ⟨h1, w⟩ := w
    rename_i _ ds k _
    have two : k = 1 ∨ k ≤ 0 ∨ 2 ≤ k := by omega
    have emp : vs = [] → ds = [] := fun e => List.length_eq_zero_iff.mp (by rw [r1.length, e]; rfl)
    by_cases e0 : vs = []
    · have e1 := emp e0
      subst e1
      have er : repD ([] : List DL.D) k.toNat = [] := by unfold repD; simp
      rw [er] at w
      exact op_repS pins s σ H _ _ v u Q I rx ry ⟨p, _, vs, rfl, rfl, hp, .inl e0, h1.1, h1.2.1, w _ _ hr .refl ⟨⟨p, vs, rfl, hp, r1⟩, fun e => by cases e⟩⟩
    · rcases two with rfl | hz | h2
      · have er : repD ds (1 : Int).toNat = ds := by unfold repD; simp
        rw [er] at w
        exact op_repS pins s σ H _ _ v u Q I rx ry ⟨p, _, vs, rfl, rfl, hp, .inr rfl, h1.1, h1.2.1, w _ _ hr .refl ⟨⟨p, vs, rfl, hp, r1⟩, fun e => by cases e⟩⟩
      · have er : repD ds k.toNat = [] := by
          have : k.toNat = 0 := by omega
          unfold repD; rw [this]; simp
        rw [er] at w
        exact op_repZ pins s σ H _ _ v u Q I rx ry ⟨p, _, vs, rfl, rfl, hp, e0, h1.1, hz, fin_tup w hr rfl⟩
      · exact op_repT pins s σ H _ _ v u Q I rx ry ⟨p, _, vs, rfl, rfl, hp, e0, h2, h1.2.1, by rw [← r1.length]; exact h1.2.2, fin_tup w hr (r1.rep _)⟩
  · obtain ⟨h1, w⟩ := w
    obtain ⟨c, w, hc⟩ := view_of hr ra w
    cases c <;> first | exact w.elim | skip
    cases rb
    obtain ⟨p, vs, rfl, hp, r1⟩ := hc
    exact op_rep pins s σ H _ _ v u Q I rx ry ⟨p, _, vs, rfl, rfl, hp, by omega, by have := w.1; omega, by rw [← r1.length]; exact w.2.1, fin_vl w.2.2 hr (r1.rep _)⟩
  · exact w.elim
end
mutual
noncomputable def toP : D → PyData
  | .non => .none
  | .bl b => .bool b
  | .int i => .int i
  | .str s => .str (sv s)
  | .ref _ => .none
  | .xt _ => .none
  | .tup ds => .tuple (toPs ds)
noncomputable def toPs : List D → List PyData
  | [] => []
  | d :: ds => toP d :: toPs ds
end
theorem sv_inj {a b : List Nat} : (sv a == sv b) = decide (a = b) := by
  by_cases h : a = b
  · subst h; simp
  · have h' : ¬ sv a = sv b := fun e => h (by have := congrArg (fun z : Str => z.cps.toList) e; simpa using this)
    rw [decide_eq_false h]
    exact beq_eq_false_iff_ne.mpr h'
mutual
theorem eqB_eqv : ∀ (a b : D) (n m : Nat), pl n a = true → pl m b = true → eqB a b = PyData.eqv (toP a) (toP b)
  | .non, b, _, _, _, h => by cases b <;> first | rfl | (simp [pl] at h)
  | .bl x, b, _, _, _, h => by
    cases b <;> first | rfl | (simp [pl] at h; done)
  | .int i, b, _, _, _, h => by
    cases b <;> first | rfl | (simp [pl] at h; done)
  | .str x, b, _, _, _, h => by
    cases b <;> first | rfl | (simp [pl] at h; done) | skip
    show decide _ = (sv x == sv _)
    rw [sv_inj]
  | .ref a, _, _, _, h, _ => by simp [pl] at h
  | .xt a, _, _, _, h, _ => by simp [pl] at h
  | .tup ds, b, n, m, h, h' => by
    cases b <;> first | rfl | (simp [pl] at h'; done) | skip
    cases n with
    | zero => simp [pl] at h
    | succ n =>
      cases m with
      | zero => simp [pl] at h'
      | succ m =>
        show eqBs _ _ = PyData.eqvAll _ _
        exact eqBs_eqv ds _ n m (by simpa [pl] using h) (by simpa [pl] using h')
theorem eqBs_eqv : ∀ (a b : List D) (n m : Nat), pls n a = true → pls m b = true → eqBs a b = PyData.eqvAll (toPs a) (toPs b)
  | [], [], _, _, _, _ => rfl
  | [], _ :: _, _, _, _, _ => rfl
  | _ :: _, [], _, _, _, _ => rfl
  | x :: xs, y :: ys, n, m, h, h' => by
    simp only [pls, Bool.and_eq_true] at h h'
    show (eqB x y && eqBs xs ys) = (PyData.eqv (toP x) (toP y) && PyData.eqvAll (toPs xs) (toPs ys))
    rw [eqB_eqv x y n m h.1 h'.1, eqBs_eqv xs ys n m h.2 h'.2]
end
mutual
theorem pl_lay : ∀ (n : Nat) (a : D), pl n a = true → (toP a).canLay0 = true ∧ (toP a).depth ≤ n
  | n, .non, _ => ⟨rfl, Nat.zero_le _⟩
  | n, .bl _, _ => ⟨rfl, Nat.zero_le _⟩
  | n, .int _, _ => ⟨rfl, Nat.zero_le _⟩
  | n, .str s, h => by
    refine ⟨?_, Nat.zero_le _⟩
    have h : (s.all fun c => decide (c < 1114112)) = true := by simpa [pl] using h
    have e : (toP (.str s)).canLay0 = (s.toArray.all fun c => decide (c < 0x110000)) := rfl
    rw [e]
    simpa using h
  | n, .ref _, h => by simp [pl] at h
  | n, .xt _, h => by simp [pl] at h
  | 0, .tup ds, h => by simp [pl] at h
  | n + 1, .tup ds, h => by
    obtain ⟨h1, h2⟩ := pls_lay n ds (by simpa [pl] using h)
    exact ⟨h1, Nat.succ_le_succ h2⟩
theorem pls_lay : ∀ (n : Nat) (a : List D), pls n a = true → PyData.canLayAll0 (toPs a) = true ∧ PyData.depthAll (toPs a) ≤ n
  | n, [], _ => ⟨rfl, Nat.zero_le _⟩
  | n, d :: ds, h => by
    simp only [pls, Bool.and_eq_true] at h
    obtain ⟨h1, h2⟩ := pl_lay n d h.1
    obtain ⟨h3, h4⟩ := pls_lay n ds h.2
    refine ⟨?_, ?_⟩
    · show ((toP d).canLay0 && PyData.canLayAll0 (toPs ds)) = true
      rw [h1, h3]; rfl
    · show max _ _ ≤ n
      omega
end
theorem pln_shaped {a : D} (h : pln a = true) : SeqAt.shaped (toP a) = true := by
  obtain ⟨h1, h2⟩ := pl_lay 60 a h
  unfold SeqAt.shaped
  rw [h1, decide_eq_true (by omega)]; rfl
theorem plns_shaped {a : List D} (h : plns a = true) : SeqAt.shaped (.list (toPs a)) = true := by
  obtain ⟨h1, h2⟩ := pls_lay 60 a h
  unfold SeqAt.shaped
  have e : (PyData.list (toPs a)).canLay0 = true := h1
  have e' : (PyData.list (toPs a)).depth = PyData.depthAll (toPs a) + 1 := rfl
  rw [e, e', decide_eq_true (by omega)]; rfl
mutual
theorem RepV.dp {K : Frag} {H : Hp} : ∀ (n : Nat) (d : D) (v : V), pl n d = true → RepV K H d v → Dp K H v (toP d)
  | _, .non, _, _, r => by cases r; exact .non
  | _, .bl b, _, _, r => by cases r; exact .bl b
  | _, .int b, _, _, r => by cases r; exact .int b
  | _, .str b, _, _, r => by cases r; exact .str _
  | _, .ref a, _, h, _ => by simp [pl] at h
  | 0, .tup ds, _, h, _ => by simp [pl] at h
  | n + 1, .tup ds, _, h, ⟨t, vs, e, q, r⟩ => by
    subst e
    exact .tup q (RepL.dp n ds vs (by simpa [pl] using h) r)
theorem RepL.dp {K : Frag} {H : Hp} : ∀ (n : Nat) (ds : List D) (vs : List V), pls n ds = true → RepL K H ds vs → DpAll K H vs (toPs ds)
  | _, [], _, _, r => by cases r; exact .nil
  | n, d :: ds, _, h, ⟨v, vr, e, r, rr⟩ => by
    subst e
    simp only [pls, Bool.and_eq_true] at h
    exact .cons (RepV.dp n d v h.1 r) (RepL.dp n ds vr h.2 rr)
end
section
variable {X : Cx} {cx : Cls2}
noncomputable def rEE (K : Frag) (f : Bool → Bool) : R2 := fun x y H Q => ∃ p q vs, x = .ref p ∧ y = .ref q ∧ SqL K H p vs ∧ SqL K H q [] ∧ Q (.bl (f vs.isEmpty)) H
theorem op_eqE (hu : X.A.units + 64 < cLine) : OpR X (compareOp .Eq) (rEE X.K id) := by
  intro pins s σ H x y v u Q I rx ry h
  obtain ⟨p, q, vs, rfl, rfl, hp, hq, k⟩ := h
  cases rx
  cases ry
  obtain ⟨as, va, la, _⟩ := I.list hp
  obtain ⟨bs, vb, lb, _⟩ := I.list hq
  cases vb
  cases va with
  | nil => exact SeqAt.eq_listAt (e := fun _ => true) la.isList lb.isList rfl (by omega) (fun j h => absurd h (Nat.not_lt_zero _)) ⟨.bl _, H, I, rfl, k⟩
  | cons r rr => exact SeqAt.eq_list_lengthsAt la.isList lb.isList rfl (by omega) ⟨.bl _, H, I, rfl, k⟩
theorem op_neE (hu : X.A.units + 64 < cLine) : OpR X (compareOp .NotEq) (rEE X.K not) := by
  intro pins s σ H x y v u Q I rx ry h
  obtain ⟨p, q, vs, rfl, rfl, hp, hq, k⟩ := h
  cases rx
  cases ry
  obtain ⟨as, va, la, _⟩ := I.list hp
  obtain ⟨bs, vb, lb, _⟩ := I.list hq
  cases vb
  cases va with
  | nil => exact SeqAt.RcNeAt.lists (e := fun _ => true) la.isList lb.isList rfl (by omega) (fun j h => absurd h (Nat.not_lt_zero _)) _ _ _ _ ⟨.bl _, H, I, rfl, k⟩
  | cons r rr => exact SeqAt.RcNeAt.lists_lengths la.isList lb.isList rfl (by omega) _ _ _ _ ⟨.bl _, H, I, rfl, k⟩
noncomputable def rEK (f : Bool → Bool) : R2 := fun x y H Q => ∃ p q ks, x = .ref p ∧ y = .ref q ∧ H p = some (.dK ks) ∧ H q = some (.dK []) ∧ Q (.bl (f ks.isEmpty)) H
theorem op_eqK (hu : X.A.units + 64 < cLine) : OpR X (compareOp .Eq) (rEK id) := by
  intro pins s σ H x y v u Q I rx ry h
  obtain ⟨a, b, ks, rfl, rfl, ea, eb, q⟩ := h
  obtain rfl : v = Value.ref a := rx
  obtain rfl : u = Value.ref b := ry
  obtain ⟨_, ya, va, ra, da⟩ := (show ObjOk X.prog X.w H s.heap a (.dK ks) from I.hok a _ ea)
  obtain ⟨_, yb, vb, rb, db⟩ := (show ObjOk X.prog X.w H s.heap b (.dK []) from I.hok b _ eb)
  have hb : vb = [] := by cases rb; rfl
  subst hb
  have hl : va.length = ks.length := ra.length.symm
  refine PySem.W.keq_eq (knd := mixKind X.prog X.w) (r := true) ya yb da db (by omega) (fun e => ?_) ?_
  · have : va = [] := List.length_eq_zero_iff.mp e
    subst this
    exact .nil
  · refine L2.fin_bl I q ?_
    cases ks <;> simp at hl <;> simp [hl]
theorem op_neK (hu : X.A.units + 64 < cLine) : OpR X (compareOp .NotEq) (rEK not) := by
  intro pins s σ H x y v u Q I rx ry h
  obtain ⟨a, b, ks, rfl, rfl, ea, eb, q⟩ := h
  obtain rfl : v = Value.ref a := rx
  obtain rfl : u = Value.ref b := ry
  obtain ⟨_, ya, va, ra, da⟩ := (show ObjOk X.prog X.w H s.heap a (.dK ks) from I.hok a _ ea)
  obtain ⟨_, yb, vb, rb, db⟩ := (show ObjOk X.prog X.w H s.heap b (.dK []) from I.hok b _ eb)
  have hb : vb = [] := by cases rb; rfl
  subst hb
  have hl : va.length = ks.length := ra.length.symm
  refine PySem.W.keq_ne (knd := mixKind X.prog X.w) (r := true) ya yb da db (by omega) (fun e => ?_) ?_
  · have : va = [] := List.length_eq_zero_iff.mp e
    subst this
    exact .nil
  · refine L2.fin_bl I q ?_
    cases ks <;> simp at hl <;> simp [hl]
theorem DicR.emp {K : Frag} {H : Hp} {kvs : List (D × D)} {ks : List (Key × V)} (r : DicR K H kvs ks) : ks.isEmpty = kvs.isEmpty := by cases r <;> rfl
theorem opOr {f : Value → Value → Sem Value} {r r' : R2} (h : OpR X f r) (h' : OpR X f r') : OpR X f (fun x y H Q => r x y H Q ∨ r' x y H Q) := fun pins s σ H x y v u Q I rx ry w =>
  w.elim (h pins s σ H x y v u Q I rx ry) (h' pins s σ H x y v u Q I rx ry)
theorem eqBs_nil (a : List D) : eqBs a [] = a.isEmpty := by cases a <;> rfl
theorem RepL.emp {K : Frag} {H : Hp} : ∀ {ds : List D} {vs : List V}, RepL K H ds vs → vs.isEmpty = ds.isEmpty
  | [], _, r => by cases r; rfl
  | _ :: _, _, ⟨_, _, e, _⟩ => by subst e; rfl
theorem eqD_rd {a b : Vx} {x y : V} {S : Hs} {H : Hp} {P : Bool → Prop} (hr : Rel X.K cx S H) (ra : RepX X.K H S a x) (rb : RepX X.K H S b y) (w : eqD a b S P) :
    (∃ d e, Dp X.K H x d ∧ Dp X.K H y e ∧ SeqAt.shaped d = true ∧ SeqAt.shaped e = true ∧ P (PyData.eqv d e)) ∨ (∃ p q vs, x = .ref p ∧ y = .ref q ∧ SqL X.K H p vs ∧ SqL X.K H q [] ∧ P vs.isEmpty) ∨ ∃ p q ks, x = .ref p ∧ y = .ref q ∧ H p = some (.dK ks) ∧ H q = some (.dK []) ∧ P ks.isEmpty := by
  have lists : (view a S fun c => view b S fun c' => eqC c c' P) → (∃ d e, Dp X.K H x d ∧ Dp X.K H y e ∧ SeqAt.shaped d = true ∧ SeqAt.shaped e = true ∧ P (PyData.eqv d e)) ∨ (∃ p q vs, x = .ref p ∧ y = .ref q ∧ SqL X.K H p vs ∧ SqL X.K H q [] ∧ P vs.isEmpty) ∨ ∃ p q ks, x = .ref p ∧ y = .ref q ∧ H p = some (.dK ks) ∧ H q = some (.dK []) ∧ P ks.isEmpty := fun w => by
    obtain ⟨c, w, hc⟩ := view_of hr ra w
    obtain ⟨c', w, hc'⟩ := view_of hr rb w
    cases c <;> cases c' <;> first | exact w.elim | skip
    rotate_left
    · obtain ⟨p, ks, rfl, hp, r1⟩ := hc
      obtain ⟨q, us, rfl, hq, r2⟩ := hc'
      obtain ⟨w1, w2⟩ := w
      subst w1
      cases r2
      exact .inr (.inr ⟨p, q, ks, rfl, rfl, hp, hq, by rw [DicR.emp r1]; exact w2⟩)
    obtain ⟨p, vs, rfl, hp, r1⟩ := hc
    obtain ⟨q, us, rfl, hq, r2⟩ := hc'
    obtain ⟨w1, w2⟩ := w
    rcases w1 with e | w1
    · subst e
      cases r2
      refine .inr (.inl ⟨p, q, vs, rfl, rfl, SqL.of hp, SqL.of hq, ?_⟩)
      rw [RepL.emp r1, ← eqBs_nil]
      exact w2
    refine .inl ⟨_, _, .lst (SqL.of hp) (RepL.dp 60 _ _ w1.1 r1), .lst (SqL.of hq) (RepL.dp 60 _ _ w1.2 r2), plns_shaped w1.1, plns_shaped w1.2, ?_⟩
    have e := eqBs_eqv _ _ 60 60 w1.1 w1.2
    show P (PyData.eqvAll _ _)
    rw [← e]
    exact w2
  unfold eqD at w
  split at w
  · exact lists w
  · exact w.elim
  · refine .inl ⟨_, _, RepV.dp 60 _ _ w.1 ra, RepV.dp 60 _ _ w.2.1 rb, pln_shaped w.1, pln_shaped w.2.1, ?_⟩
    rw [← eqB_eqv _ _ 60 60 w.1 w.2.1]
    exact w.2.2
  · exact lists w
mutual
theorem resP_dp {K : Frag} {cx : Cls2} {S : Hs} {H : Hp} (hr : Rel K cx S H) : ∀ (n : Nat) (d : D) (v : V) (p : PyData), resP S n d = some p → RepV K H d v → Dp K H v p
  | n, .non, v, p, e, r => by unfold resP at e; cases e; cases r; exact .non
  | n, .bl b, v, p, e, r => by unfold resP at e; cases e; cases r; exact .bl b
  | n, .int i, v, p, e, r => by unfold resP at e; cases e; cases r; exact .int i
  | n, .str s, v, p, e, r => by unfold resP at e; cases e; cases r; exact .str _
  | 0, .tup ds, v, p, e, _ => by unfold resP at e; cases e
  | 0, .ref a, v, p, e, _ => by unfold resP at e; cases e
  | 0, .xt ds, v, p, e, _ => by unfold resP at e; cases e
  | n + 1, .xt ds, v, p, e, r => by
    unfold resP at e
    obtain ⟨ps, e1, rfl⟩ := Option.map_eq_some_iff.mp e
    obtain ⟨t, vs, rfl, q, r⟩ := r
    exact .tup q.t (resPs_dp hr n ds vs ps e1 r)
  | n + 1, .tup ds, v, p, e, r => by
    unfold resP at e
    obtain ⟨ps, e1, rfl⟩ := Option.map_eq_some_iff.mp e
    obtain ⟨t, vs, rfl, q, r⟩ := r
    exact .tup q (resPs_dp hr n ds vs ps e1 r)
  | n + 1, .ref a, v, p, e, r => by
    unfold resP at e
    cases r
    split at e
    · rename_i ds ha
      obtain ⟨ps, e1, rfl⟩ := Option.map_eq_some_iff.mp e
      obtain ⟨vs, hv, rv⟩ := hr a _ ha
      exact .lst (SqL.of hv) (resPs_dp hr n ds vs ps e1 rv)
    · cases e
  termination_by n d => (n, sizeOf d)
theorem resPs_dp {K : Frag} {cx : Cls2} {S : Hs} {H : Hp} (hr : Rel K cx S H) : ∀ (n : Nat) (ds : List D) (vs : List V) (ps : List PyData), resPs S n ds = some ps → RepL K H ds vs → DpAll K H vs ps
  | n, [], vs, ps, e, r => by unfold resPs at e; cases e; cases r; exact .nil
  | n, d :: ds, vs, ps, e, r => by
    unfold resPs at e
    obtain ⟨v, vr, rfl, r, rr⟩ := r
    split at e
    · rename_i p ps' e1 e2
      cases e
      exact .cons (resP_dp hr n d v p e1 r) (resPs_dp hr n ds vr ps' e2 rr)
    · cases e
  termination_by n ds => (n, sizeOf ds)
end
theorem resX_dp {S : Hs} {H : Hp} {a : Vx} {x : V} {p : PyData} (hr : Rel X.K cx S H) (ra : RepX X.K H S a x) (e : resX S a = some p) : Dp X.K H x p := by
  cases a with
  | d y => exact resP_dp hr 50 y x p e ra
  | vl ds =>
    obtain ⟨ps, e1, rfl⟩ := Option.map_eq_some_iff.mp e
    obtain ⟨l, vs, rfl, h, _, r⟩ := ra
    exact .lst (SqL.of h) (resPs_dp hr 49 ds vs ps e1 r)
  | bw ds =>
    obtain ⟨ps, e1, rfl⟩ := Option.map_eq_some_iff.mp e
    obtain ⟨l, vs, rfl, h, _, r⟩ := ra
    exact .lst (SqL.of h) (resPs_dp hr 49 ds vs ps e1 r)
  | _ => cases e
theorem eqH_rd {a b : Vx} {x y : V} {S : Hs} {H : Hp} {P : Bool → Prop} (hr : Rel X.K cx S H) (ra : RepX X.K H S a x) (rb : RepX X.K H S b y) (w : eqH a b S P) :
    ∃ d e, Dp X.K H x d ∧ Dp X.K H y e ∧ SeqAt.shaped d = true ∧ SeqAt.shaped e = true ∧ P (PyData.eqv d e) := let ⟨p, q, h1, h2, h3, h4, k⟩ := w; ⟨p, q, resX_dp hr ra h1, resX_dp hr rb h2, h3, h4, k⟩
theorem op2_eqh (hu : X.A.units + 64 < cLine) : OpR X (compareOp .Eq) (r2of X.K cx (op2D .eqh)) := opImp (op_eqD hu) fun x y H Q w => by
  obtain ⟨S, a, b, hr, ra, rb, w⟩ := w
  obtain ⟨d, e, h1, h2, h3, h4, q⟩ := eqH_rd (P := fun k => KVof X.K cx S H Q (.d (.bl k)) S) hr ra rb w
  exact ⟨d, e, h1, h2, h3, h4, fin_bl q hr⟩
theorem op2_neh (hu : X.A.units + 64 < cLine) : OpR X (compareOp .NotEq) (r2of X.K cx (op2D .neh)) := opImp (op_neD hu) fun x y H Q w => by
  obtain ⟨S, a, b, hr, ra, rb, w⟩ := w
  obtain ⟨d, e, h1, h2, h3, h4, q⟩ := eqH_rd (P := fun k => KVof X.K cx S H Q (.d (.bl (!k))) S) hr ra rb w
  exact ⟨d, e, h1, h2, h3, h4, fin_bl q hr⟩
theorem op2_eq (hu : X.A.units + 64 < cLine) : OpR X (compareOp .Eq) (r2of X.K cx (op2D .eq)) := opImp (opOr (op_eqD hu) (opOr (op_eqE hu) (op_eqK hu))) fun x y H Q w => by
  obtain ⟨S, a, b, hr, ra, rb, w⟩ := w
  rcases eqD_rd (P := fun k => KVof X.K cx S H Q (.d (.bl (k))) S) hr ra rb w with ⟨d, e, h1, h2, h3, h4, q⟩ | ⟨p, q, vs, h1, h2, h3, h4, q'⟩ | ⟨p, q, vs, h1, h2, h3, h4, q'⟩
  · exact .inl ⟨d, e, h1, h2, h3, h4, fin_bl q hr⟩
  · exact .inr (.inl ⟨p, q, vs, h1, h2, h3, h4, fin_bl q' hr⟩)
  · exact .inr (.inr ⟨p, q, vs, h1, h2, h3, h4, fin_bl q' hr⟩)
theorem op2_ne (hu : X.A.units + 64 < cLine) : OpR X (compareOp .NotEq) (r2of X.K cx (op2D .ne)) := opImp (opOr (op_neD hu) (opOr (op_neE hu) (op_neK hu))) fun x y H Q w => by
  obtain ⟨S, a, b, hr, ra, rb, w⟩ := w
  rcases eqD_rd (P := fun k => KVof X.K cx S H Q (.d (.bl (!k))) S) hr ra rb w with ⟨d, e, h1, h2, h3, h4, q⟩ | ⟨p, q, vs, h1, h2, h3, h4, q'⟩ | ⟨p, q, vs, h1, h2, h3, h4, q'⟩
  · exact .inl ⟨d, e, h1, h2, h3, h4, fin_bl q hr⟩
  · exact .inr (.inl ⟨p, q, vs, h1, h2, h3, h4, fin_bl q' hr⟩)
  · exact .inr (.inr ⟨p, q, vs, h1, h2, h3, h4, fin_bl q' hr⟩)
theorem isN_rep {K : Frag} {H : Hp} {S : Hs} {a : Vx} {x : V} (r : RepX K H S a x) : (x = .non) ↔ a = .d .non := by
  constructor
  · rintro rfl
    cases a with
    | d y =>
      cases y with
      | non => rfl
      | bl b => cases r
      | int b => cases r
      | str b => cases r
      | ref b => cases r
      | tup b => obtain ⟨_, _, e, _⟩ := r; cases e
      | xt b => obtain ⟨_, _, e, _⟩ := r; cases e
    | vl _ => obtain ⟨_, _, e, _⟩ := r; cases e
    | bw _ => obtain ⟨_, _, e, _⟩ := r; cases e
    | fz _ => obtain ⟨_, _, e, _⟩ := r; cases e
    | vd _ => obtain ⟨_, _, e, _⟩ := r; cases e
    | bd _ => obtain ⟨_, _, e, _⟩ := r; cases e
    | st _ => exact r.elim
  · rintro rfl
    exact r
theorem isD_non {a : Vx} {b : Bool} (h : isD a (.d .non) = some b) {K : Frag} {H : Hp} {S : Hs} {x : V} (r : RepX K H S a x) : decide (x = .non) = b := by
  by_cases e : a = .d .non
  · subst e
    cases h
    exact decide_eq_true r
  · have : isD a (.d .non) = some false := by
      cases a with
      | d y => cases y <;> first | rfl | exact absurd rfl e
      | _ => rfl
    rw [this] at h
    cases h
    exact decide_eq_false fun z => e ((isN_rep r).mp z)
theorem is_cases {a b : Vx} {k : Bool} (h : isD a b = some k) : b = .d .non ∨ ∃ p q, a = .d (.bl p) ∧ b = .d (.bl q) ∧ k = decide (p = q) := by
  unfold isD at h
  split at h
  · exact .inl rfl
  · exact .inl rfl
  · cases h; exact .inr ⟨_, _, rfl, rfl, rfl⟩
  · cases h
theorem op2_is : OpR X (compareOp .Is) (r2of X.K cx (op2D .is)) := by
  intro pins s σ H x y v u Q I rx ry w
  obtain ⟨S, a, b, hr, ra, rb, k, e, w⟩ := w
  rcases is_cases e with rfl | ⟨p, q, rfl, rfl, rfl⟩
  · refine op_isN pins s σ H x y v u Q I rx ry ⟨rb, ?_⟩
    rw [isD_non e ra]
    exact fin_bl w hr
  · cases ra
    cases rb
    exact op_isBl pins s σ H _ _ v u Q I rx ry ⟨p, q, rfl, rfl, fin_bl w hr⟩
theorem op2_isnt : OpR X (compareOp .IsNot) (r2of X.K cx (op2D .isnt)) := by
  intro pins s σ H x y v u Q I rx ry w
  obtain ⟨S, a, b, hr, ra, rb, k, e, w⟩ := w
  rcases is_cases e with rfl | ⟨p, q, rfl, rfl, rfl⟩
  · refine op_notN pins s σ H x y v u Q I rx ry ⟨rb, ?_⟩
    rw [isD_non e ra]
    exact fin_bl w hr
  · cases ra
    cases rb
    exact op_notBl pins s σ H _ _ v u Q I rx ry ⟨p, q, rfl, rfl, fin_bl w hr⟩
end
mutual
theorem nk_depth : ∀ (n : Nat) (d : D), pl n d = true → (nkD d).depth ≤ n
  | n, .non, _ => by simp [nkD, NestedKey.depth]
  | n, .bl b, _ => by simp [nkD, NestedKey.depth]
  | n, .int i, _ => by simp [nkD, NestedKey.depth]
  | n, .str s, _ => by simp [nkD, NestedKey.depth]
  | n, .ref a, h => by cases n <;> simp [pl] at h
  | 0, .tup ds, h => by simp [pl] at h
  | n + 1, .tup ds, h => by
    have := nks_depth n ds (by simpa [pl] using h)
    simp only [nkD, NestedKey.depth]; omega
theorem nks_depth : ∀ (n : Nat) (ds : List D), pls n ds = true → NestedKey.depthAll (nkDs ds) ≤ n
  | n, [], _ => by simp [nkDs, NestedKey.depthAll]
  | n, d :: ds, h => by
    simp only [pls, Bool.and_eq_true] at h
    have h1 := nk_depth n d h.1
    have h2 := nks_depth n ds h.2
    simp only [nkDs, NestedKey.depthAll]; omega
end
theorem nk_num {i j : Int} : decide ((NestedKey.num i) = .num j) = decide (i = j) := by
  by_cases e : i = j
  · subst e; simp
  · rw [decide_eq_false e, decide_eq_false fun z => e (NestedKey.num.inj z)]
theorem nk_text {i j : List Nat} : decide ((NestedKey.text (sv i)) = .text (sv j)) = decide (i = j) := by
  by_cases e : i = j
  · subst e; simp
  · rw [decide_eq_false e, decide_eq_false fun z => e (by have := congrArg (fun z : Str => z.cps.toList) (NestedKey.text.inj z); simpa using this)]
mutual
theorem nk_eq : ∀ (n m : Nat) (a b : D), pl n a = true → pl m b = true → eqB a b = decide (nkD a = nkD b)
  | n, m, .non, b, _, hb => by cases b <;> first | rfl | (simp [nkD, eqB]; done) | (cases m <;> simp [pl] at hb)
  | n, m, .bl x, b, _, hb => by
    cases b with
    | bl y => show (x == y) = decide ((NestedKey.num _) = .num _); rw [nk_num]; cases x <;> cases y <;> rfl
    | int j => show decide _ = decide ((NestedKey.num _) = .num _); rw [nk_num]
    | ref a => cases m <;> simp [pl] at hb
    | _ => simp [nkD, eqB]
  | n, m, .int x, b, _, hb => by
    cases b with
    | bl y => show decide _ = decide ((NestedKey.num _) = .num _); rw [nk_num]
    | int j => show decide _ = decide ((NestedKey.num _) = .num _); rw [nk_num]
    | ref a => cases m <;> simp [pl] at hb
    | _ => simp [nkD, eqB]
  | n, m, .str x, b, _, hb => by
    cases b with
    | str y => show decide _ = decide ((NestedKey.text _) = .text _); rw [nk_text]
    | ref a => cases m <;> simp [pl] at hb
    | _ => simp [nkD, eqB]
  | n, m, .ref a, b, ha, _ => by cases n <;> simp [pl] at ha
  | 0, m, .tup as, b, ha, _ => by simp [pl] at ha
  | n + 1, m, .tup as, b, ha, hb => by
    cases b with
    | tup bs =>
      cases m with
      | zero => simp [pl] at hb
      | succ m =>
        have := nks_eq n m as bs (by simpa [pl] using ha) (by simpa [pl] using hb)
        show eqBs as bs = decide ((NestedKey.tup (nkDs as)) = .tup (nkDs bs))
        rw [this]
        by_cases e : nkDs as = nkDs bs
        · rw [decide_eq_true e, decide_eq_true (by rw [e])]
        · rw [decide_eq_false e, decide_eq_false fun z => e (NestedKey.tup.inj z)]
    | ref a => cases m <;> simp [pl] at hb
    | _ => simp [nkD, eqB]
theorem nks_eq : ∀ (n m : Nat) (a b : List D), pls n a = true → pls m b = true → eqBs a b = decide (nkDs a = nkDs b)
  | n, m, [], [], _, _ => rfl
  | n, m, [], y :: b, _, _ => by simp [nkDs, eqBs]
  | n, m, x :: a, [], _, _ => by simp [nkDs, eqBs]
  | n, m, x :: a, y :: b, ha, hb => by
    simp only [pls, Bool.and_eq_true] at ha hb
    have h1 := nk_eq n m x y ha.1 hb.1
    have h2 := nks_eq n m a b ha.2 hb.2
    show (eqB x y && eqBs a b) = decide (nkD x :: nkDs a = nkD y :: nkDs b)
    rw [h1, h2]
    by_cases e1 : nkD x = nkD y
    · by_cases e2 : nkDs a = nkDs b
      · rw [decide_eq_true e1, decide_eq_true e2, decide_eq_true (by rw [e1, e2])]; rfl
      · rw [decide_eq_true e1, decide_eq_false e2, decide_eq_false fun z => e2 (List.cons.inj z).2]; rfl
    · rw [decide_eq_false e1, decide_eq_false fun z => e1 (List.cons.inj z).1]; rfl
end
theorem keyN_pl {d : D} (h : keyN d = true) : ∃ ds, d = .tup ds ∧ pl 8 d = true := by
  cases d <;> first | exact ⟨_, rfl, h⟩ | cases h
theorem keyN_eq {a b : D} (ha : keyN a = true) (hb : keyN b = true) : eqB a b = decide (nkD a = nkD b) := by
  obtain ⟨_, _, h1⟩ := keyN_pl ha
  obtain ⟨_, _, h2⟩ := keyN_pl hb
  exact nk_eq 8 8 a b h1 h2
section
variable {X : Cx} {pins : List (Addr × Obj)} {σ : L2.St} {H : Hp} {s : Shared}
mutual
theorem rep_nested (I : Inv X pins σ H s) : ∀ (n : Nat) (d : D) (v : V) (u : Value), pl n d = true → RepV X.K H d v → RelV v u → NestedIs s.heap (nkD d) u
  | _, .non, _, u, _, r, ru => by cases r; cases ru; exact .none
  | _, .bl b, _, u, _, r, ru => by cases r; cases ru; exact .bool rfl
  | _, .int i, _, u, _, r, ru => by cases r; obtain ⟨t, rfl⟩ := ru; exact .int i t
  | _, .str x, _, u, _, r, ru => by cases r; obtain ⟨t, rfl⟩ := ru; exact .text _ t
  | n, .ref a, _, u, h, _, _ => by cases n <;> simp [pl] at h
  | 0, .tup ds, _, u, h, _, _ => by simp [pl] at h
  | n + 1, .tup ds, _, u, h, ⟨t, vs, e, q, r⟩, ru => by
    subst e
    cases ru
    obtain ⟨its, rv, ⟨o, ho, hc, m, hd⟩, _⟩ := I.tuple q
    exact .tup ho hc hd (reps_nested I n ds vs _ (by simpa [pl] using h) r rv)
theorem reps_nested (I : Inv X pins σ H s) : ∀ (n : Nat) (ds : List D) (vs : List V) (us : List Value), pls n ds = true → RepL X.K H ds vs → Vals vs us → NestedAll s.heap (nkDs ds) us
  | _, [], _, us, _, r, rv => by cases r; cases rv; exact .nil
  | n, d :: ds, _, us, h, ⟨v, vr, e, r, rr⟩, rv => by
    subst e
    cases rv with
    | cons r1 r2 =>
      simp only [pls, Bool.and_eq_true] at h
      exact .cons (rep_nested I n d v _ h.1 r r1) (reps_nested I n ds vr _ h.2 rr r2)
end
theorem key_is (I : Inv X pins σ H s) {d : D} {v : V} {u : Value} (h : keyN d = true) (r : RepV X.K H d v) (ru : RelV v u) : ∃ b, v = .ref b ∧ u = .ref b ∧ (nestedKind X.prog X.w).is s.heap (nkD d) b := by
  obtain ⟨ds, rfl, hp⟩ := keyN_pl h
  have hr := rep_nested I 8 _ v u hp r ru
  obtain ⟨t, vs, rfl, q, _⟩ := r
  cases ru
  exact ⟨t, rfl, rfl, hr, nk_depth 8 _ hp⟩
variable {w : World} {a : Addr} {kvs : List (D × D)} {xs : List NE}
theorem DnR.get {K : Frag} {x : D} (hx : keyN x = true) : ∀ {kvs : List (D × D)} {xs : List NE}, DnR K H kvs xs → (∀ y, dget kvs x = some y → ∃ p v, atKey xs (nkD x) = some p ∧ RelV v p.2 ∧ RepV K H y v) ∧ (dget kvs x = none → atKey xs (nkD x) = none)
  | _, _, .nil => ⟨(fun y e => by cases e), fun _ => rfl⟩
  | (k, y) :: r, (k', b, u) :: r', .cons h t => by
    obtain ⟨h1, h2, h3, v, h4, h5⟩ := h
    have ih := DnR.get hx t
    have h2 : k' = nkD k := h2
    have e : eqB k x = decide (nkD k = nkD x) := keyN_eq h1 hx
    by_cases q : nkD k = nkD x
    · rw [decide_eq_true q] at e
      have e1 : dget ((k, y) :: r) x = some y := by unfold dget; rw [e]
      have e2 : atKey ((k', b, u) :: r') (nkD x) = some (b, u) := by simp [atKey, List.find?_cons, h2, q]
      rw [e1, e2]
      exact ⟨fun z hz => ⟨_, v, rfl, h4, by cases hz; exact h5⟩, fun z => by cases z⟩
    · rw [decide_eq_false q] at e
      have e1 : dget ((k, y) :: r) x = dget r x := by show (match eqB k x with | true => some y | false => dget r x) = _; rw [e]
      have e2 : atKey ((k', b, u) :: r') (nkD x) = atKey r' (nkD x) := by simp [atKey, List.find?_cons, h2, q]
      rw [e1, e2]
      exact ih
theorem DnR.has {K : Frag} {x : D} (hx : keyN x = true) {kvs : List (D × D)} {xs : List NE} (r : DnR K H kvs xs) : dhas kvs x = (atKey xs (nkD x)).isSome := by
  unfold dhas
  cases e : dget kvs x with
  | none => rw [(r.get hx).2 e]; rfl
  | some y => obtain ⟨p, v, h, _⟩ := (r.get hx).1 y e; rw [h]; rfl
theorem DnR.put {K : Frag} {x y : D} {b : Addr} {v : V} {u : Value} (hx : keyN x = true) (rx : RepV K H x (.ref b)) (ry : RepV K H y v) (rv : RelV v u) {kvs : List (D × D)} {xs : List NE} (r : DnR K H kvs xs) : DnR K H (dput kvs x y) (storedH xs (nkD x) b u) := by
  have e := r.has hx
  unfold dput storedH
  rw [← e]
  cases dhas kvs x with
  | true =>
    rw [if_pos rfl]
    show DnR K H (kvs.map _) _
    clear e
    induction r with
    | nil => exact .nil
    | @cons p q l1 l2 h t ih =>
      obtain ⟨k, z⟩ := p
      obtain ⟨k', b', z'⟩ := q
      obtain ⟨h1, h2, h3, v', h4, h5⟩ := h
      have h2 : k' = nkD k := h2
      have e : eqB k x = decide (nkD k = nkD x) := keyN_eq h1 hx
      refine .cons ?_ ih
      by_cases q : nkD k = nkD x
      · have e1 : putAt (nkD x) u (k', b', z') = (k', b', u) := by unfold putAt; rw [if_pos (h2.trans q)]
        show DnE K H (match eqB k x with | true => (k, y) | false => (k, z)) (putAt (nkD x) u (k', b', z'))
        rw [e, decide_eq_true q, e1]
        exact ⟨h1, h2, h3, v, rv, ry⟩
      · have e1 : putAt (nkD x) u (k', b', z') = (k', b', z') := by unfold putAt; rw [if_neg fun z => q (h2.symm.trans z)]
        show DnE K H (match eqB k x with | true => (k, y) | false => (k, z)) (putAt (nkD x) u (k', b', z'))
        rw [e, decide_eq_false q, e1]
        exact ⟨h1, h2, h3, v', h4, h5⟩
  | false =>
    rw [if_neg (by simp)]
    show DnR K H (kvs ++ [(x, y)]) _
    exact Paired.snoc r ⟨hx, rfl, rx, v, rv, ry⟩
theorem DnR.length {K : Frag} {kvs : List (D × D)} {xs : List NE} (r : DnR K H kvs xs) : kvs.length = xs.length := Paired.length r
theorem stored_len {xs : List NE} {k : NestedKey} {b : Addr} {u : Value} : (storedH xs k b u).length ≤ xs.length + 1 := by
  unfold storedH
  split <;> simp
noncomputable def DnAt (w : World) (H : Hp) (a : Addr) (xs : List NE) : Prop := H a = some (dnO w a xs) ∨ ∃ o, H a = some (.frz o (dnO w a xs))
theorem dn_obj (I : Inv X pins σ H s) (h : DnAt X.w H a xs) : dnP X.w a xs s.heap := by
  rcases h with h | ⟨o, h⟩
  · exact (I.hok a _ h).1
  · exact (I.hok a _ h).2.1
theorem dn_of (I : Inv X pins σ H s) (h : DnAt X.w H a xs) (r : DnOk X.K H a kvs xs) : s.heap.DictOfH (nestedKind X.prog X.w) a xs := by
  obtain ⟨o, es, ep, h1, h2, h3, h4⟩ := dn_obj I h
  refine ⟨o, es, ep, h1, h2, h3, h4, fun x hx => ?_, r.nd⟩
  have : ∀ {kvs : List (D × D)} {xs : List NE}, DnR X.K H kvs xs → ∀ x ∈ xs, (nestedKind X.prog X.w).is s.heap x.1 x.2.1 := by
    intro kvs xs r
    induction r with
    | nil => intro x hx; cases hx
    | cons h _ ih =>
      intro x hx
      rcases List.mem_cons.mp hx with rfl | hx
      · obtain ⟨h1, h2, h3, _⟩ := h
        obtain ⟨b, e1, e2, h⟩ := key_is I h1 h3 (u := .ref x.2.1) rfl
        cases e1
        rw [h2]; exact h
      · exact ih x hx
  exact this r.r x hx
variable {A : Around} {E : Value → Shared → Prop} {u : Value} {v : V} {x y : D}
theorem dn_in {Q : Value → Shared → Prop} (hu : A.units + 60 < cLine) (I : Inv X pins σ H s) (h : DnAt X.w H a xs) (r : DnOk X.K H a kvs xs) (hx : keyN x = true) (rx : RepV X.K H x v) (ru : RelV v u) (q : ∀ s', Inv X pins σ H s' → Q (.bool (dhas kvs x)) s') :
    wpAny (model X.prog X.w) A (compareOp .In u (.ref a)) Q E s := by
  obtain ⟨b, rfl, rfl, hk⟩ := key_is I hx rx ru
  refine wpAny_in_heap (show A.units + 1 + 8 < cLine by omega) hk r.m (dn_of I h r) ?_
  rw [← r.r.has hx]
  exact q _ (I.tok _)
theorem dn_notIn {Q : Value → Shared → Prop} (hu : A.units + 60 < cLine) (I : Inv X pins σ H s) (h : DnAt X.w H a xs) (r : DnOk X.K H a kvs xs) (hx : keyN x = true) (rx : RepV X.K H x v) (ru : RelV v u) (q : ∀ s', Inv X pins σ H s' → Q (.bool (!dhas kvs x)) s') :
    wpAny (model X.prog X.w) A (compareOp .NotIn u (.ref a)) Q E s := by
  obtain ⟨b, rfl, rfl, hk⟩ := key_is I hx rx ru
  refine wpAny_notIn_heap (show A.units + 1 + 8 < cLine by omega) hk r.m (dn_of I h r) ?_
  rw [← r.r.has hx]
  exact q _ (I.tok _)
theorem dn_getItem {Q : Value → Shared → Prop} (hu : A.units + 60 < cLine) (I : Inv X pins σ H s) (h : DnAt X.w H a xs) (r : DnOk X.K H a kvs xs) (hx : keyN x = true) (rx : RepV X.K H x v) (ru : RelV v u) (e : dget kvs x = some y)
    (q : ∀ zv w' s', Inv X pins σ H s' → RelV zv w' → RepV X.K H y zv → Q w' s') : wpAny (model X.prog X.w) A (getItem (.ref a) u) Q E s := by
  obtain ⟨b, rfl, rfl, hk⟩ := key_is I hx rx ru
  obtain ⟨p, zv, h1, h2, h3⟩ := (r.r.get hx).1 y e
  exact wpAny_getItem_heap (show A.units + 1 + 8 < cLine by omega) hk (dn_of I h r) h1 (q zv _ _ (I.tok _) h2 h3)
theorem dn_typeIs (I : Inv X pins σ H s) (h : DnAt X.w H a xs) : s.TypeIs (.ref a) "dict" := by
  obtain ⟨o, es, ep, h1, h2, _⟩ := dn_obj I h
  exact ⟨o, h1, h2.1⟩
theorem dnP_ext {w : World} {a : Addr} {xs : List NE} : ∀ h1 h2 : Heap, dnP w a xs h1 → (∀ o, h1.get? a = some o → h2.get? a = some o) → dnP w a xs h2 := fun h1 h2 ⟨o, es, ep, e, r⟩ k => ⟨o, es, ep, k _ e, r⟩
theorem dn_okO {P : Program} {w : World} {H : Hp} {h : Heap} {a : Addr} {xs : List NE} (p : dnP w a xs h) : ObjOk P w H h a (dnO w a xs) := ⟨p, let ⟨o, _, _, e, _⟩ := p; ⟨o, e⟩, dnP_ext⟩
theorem dn_tups {K : Frag} {H : Hp} {w : World} {a : Addr} {xs : List NE} {h : HO} (hp : H a = some (dnO w a xs)) : TupS K H (upd H a h) := tupS_upd fun o e => by rw [hp] at e; cases e; rfl
theorem dn_setItem {Q : Unit → Shared → Prop} {uy : Value} {vy : V} (hu : A.units + 60 < cLine) (I : Inv X pins σ H s) (h : H a = some (dnO X.w a xs)) (r : DnOk X.K H a kvs xs) (hl : kvs.length < sizeLine) (hx : keyN x = true) (rx : RepV X.K H x v) (ru : RelV v u) (ry : RepV X.K H y vy) (ruy : RelV vy uy)
    (q : ∀ xs' s', Inv X pins σ (upd H a (dnO X.w a xs')) s' → DnOk X.K (upd H a (dnO X.w a xs')) a (dput kvs x y) xs' → Q () s') : wpAny (model X.prog X.w) A (setItem (.ref a) u uy) Q E s := by
  obtain ⟨b, rfl, rfl, hk⟩ := key_is I hx rx ru
  refine wpAny_setItem_heap (hsz := r.z) (show A.units + 1 + 8 < cLine by omega) hk (dn_of I (.inl h) r) fun h' dd hs => ?_
  obtain ⟨o, es, ep, h1, h2, h3, h4, _, h5⟩ := dd
  have p : dnP X.w a (storedH xs (nkD x) b uy) h' := ⟨o, es, ep, h1, h2, h3, h4⟩
  refine q _ _ (d_write I (by rw [h]; exact True.intro) hs ⟨o, h1⟩ (dn_okO p)) ?_
  refine DnOk.keep (dn_tups h) ⟨r.r.put hx rx ry ruy, h5, ?_, r.m⟩
  have := stored_len (xs := xs) (k := nkD x) (b := b) (u := uy)
  have := r.r.length
  omega
theorem pe_dn {pos : Pos} : PE X (.Dict [] [] pos) (fun _ H Q => ∀ p, H p = none → (p == sysModules) = false → Q (.ref p) (upd H p (dnO X.w p []))) := ⟨fun pins s σ H Q I h => by
  have hb : sysModules < s.heap.objs.size := Inv.big I
  exact wpAny_Dict_empty ⟨.ref s.heap.objs.size, _, I.laid (a := s.heap.objs.size) (o := dnO X.w s.heap.objs.size []) (t' := s.toks) (fun _ _ q => Heap.get?_push_of_some _ q) (Nat.le_refl _) (dn_okO ⟨_, #[], 0, Heap.get?_push_size _ rfl, ⟨rfl, rfl, rfl⟩, rfl, rfl⟩), rfl,
    h _ (I.hok.fresh (Nat.le_refl _)) (beq_eq_false_iff_ne.mpr (Nat.ne_of_gt hb))⟩⟩
end
noncomputable def keyK : D → Key
  | .int i => .inl i
  | .str s => .inr (sv s)
  | _ => .inl 0
theorem KeyR.of {d : D} {k : Key} (h : KeyR d k) : keyD d = true ∧ k = keyK d := by
  cases d <;> first | exact h.elim | exact ⟨rfl, h⟩
theorem keyR_mk {d : D} (h : keyD d = true) : KeyR d (keyK d) := by
  cases d <;> first | rfl | cases h
theorem eqB_key {a b : D} (h : keyD a = true) (h' : keyD b = true) : eqB a b = decide (keyK a = keyK b) := by
  cases a <;> first | cases h | skip
  · cases b <;> first | cases h' | skip
    · rename_i i j
      show decide (i = j) = decide ((Sum.inl i : Key) = Sum.inl j)
      by_cases e : i = j
      · subst e; simp
      · rw [decide_eq_false e, decide_eq_false fun z => e (Sum.inl.inj z)]
    · rename_i i j
      show false = decide ((Sum.inl i : Key) = Sum.inr _)
      exact (decide_eq_false fun z => by cases z).symm
  · cases b <;> first | cases h' | skip
    · rename_i i j
      show false = decide ((Sum.inr _ : Key) = Sum.inl j)
      exact (decide_eq_false fun z => by cases z).symm
    · rename_i i j
      show decide (i = j) = decide ((Sum.inr (sv i) : Key) = Sum.inr (sv j))
      by_cases e : i = j
      · subst e; simp
      · rw [decide_eq_false e, decide_eq_false fun z => e (by have := congrArg (fun z : Str => z.cps.toList) (Sum.inr.inj z); simpa using this)]
theorem key_rel {K : Frag} {H : Hp} {x : D} {v : V} (h : keyD x = true) (r : RepV K H x v) : v = kV (keyK x) := by
  cases x <;> first | (cases h; done) | exact r
section
variable {K : Frag} {H : Hp}
theorem DicR.get {x : D} (hx : keyD x = true) : ∀ {kvs : List (D × D)} {ks : List (Key × V)}, DicR K H kvs ks → (∀ y, dget kvs x = some y → ∃ v, valV ks (keyK x) = some v ∧ RepV K H y v) ∧ (dget kvs x = none → valV ks (keyK x) = none)
  | _, _, .nil => ⟨(fun y e => by cases e), fun _ => rfl⟩
  | (k, y) :: r, (k', v) :: r', .cons h t => by
    obtain ⟨hk, hv⟩ := h
    obtain ⟨h1, h2⟩ := KeyR.of hk
    have ih := DicR.get hx t
    have e : eqB k x = decide (keyK k = keyK x) := eqB_key h1 hx
    have h2 : k' = keyK k := h2
    by_cases q : keyK k = keyK x
    · rw [decide_eq_true q] at e
      have e1 : dget ((k, y) :: r) x = some y := by unfold dget; rw [e]
      have e2 : valV ((k', v) :: r') (keyK x) = some v := valV_pos (show k' = keyK x from h2.trans q)
      rw [e1, e2]
      exact ⟨fun z hz => ⟨v, rfl, by cases hz; exact hv⟩, fun z => by cases z⟩
    · rw [decide_eq_false q] at e
      have e1 : dget ((k, y) :: r) x = dget r x := by show (match eqB k x with | true => some y | false => dget r x) = _; rw [e]
      have e2 : valV ((k', v) :: r') (keyK x) = valV r' (keyK x) := valV_neg (show ¬ k' = keyK x from fun z => q (h2.symm.trans z))
      rw [e1, e2]
      exact ih
theorem DicR.has {x : D} (hx : keyD x = true) {kvs : List (D × D)} {ks : List (Key × V)} (r : DicR K H kvs ks) : dhas kvs x = (valV ks (keyK x)).isSome := by
  unfold dhas
  cases e : dget kvs x with
  | none => rw [(r.get hx).2 e]; rfl
  | some y => obtain ⟨v, h, _⟩ := (r.get hx).1 y e; rw [h]; rfl
theorem DicR.length {kvs : List (D × D)} {ks : List (Key × V)} (r : DicR K H kvs ks) : kvs.length = ks.length := Paired.length r
theorem DicR.put {x y : D} {v : V} (hx : keyD x = true) (ry : RepV K H y v) {kvs : List (D × D)} {ks : List (Key × V)} (r : DicR K H kvs ks) : DicR K H (dput kvs x y) (putK ks (keyK x) v) := by
  have e := r.has hx
  unfold dput putK
  rw [valV_any, ← e]
  cases dhas kvs x with
  | true =>
    rw [if_pos rfl]
    show DicR K H (kvs.map _) _
    clear e
    induction r with
    | nil => exact .nil
    | @cons p q l1 l2 h t ih =>
      obtain ⟨k, z⟩ := p
      obtain ⟨k', z'⟩ := q
      obtain ⟨h1, h2⟩ := KeyR.of h.1
      have h2 : k' = keyK k := h2
      have e : eqB k x = decide (keyK k = keyK x) := eqB_key h1 hx
      refine .cons ?_ ih
      show KeyR (match eqB k x with | true => (k, y) | false => (k, z)).1 (if k' = keyK x then (k', v) else (k', z')).1 ∧ RepV K H (match eqB k x with | true => (k, y) | false => (k, z)).2 (if k' = keyK x then (k', v) else (k', z')).2
      by_cases q : keyK k = keyK x
      · rw [e, decide_eq_true q, if_pos (show k' = keyK x from h2.trans q)]
        exact ⟨h.1, ry⟩
      · rw [e, decide_eq_false q, if_neg (show ¬ k' = keyK x from fun z => q (h2.symm.trans z))]
        exact h
  | false =>
    rw [if_neg (by simp)]
    show DicR K H (kvs ++ [(x, y)]) _
    exact Paired.snoc r ⟨keyR_mk hx, ry⟩
end
section
variable {X : Cx} {cx : Cls2}
theorem flat_rel {K : Frag} {H : Hp} {x : D} {v : V} (h : flatD x = true) (r : RepV K H x v) : flatV v = true := by
  cases x <;> first | (cases h; done) | (cases r; rfl)
theorem flats_rel {K : Frag} {H : Hp} : ∀ {ds : List D} {vs : List V}, ds.all flatD = true → RepL K H ds vs → vs.all flatV = true
  | [], _, _, e => by cases e; rfl
  | d :: ds, _, h, ⟨v, vr, e, r, rr⟩ => by
    subst e
    rw [List.all_cons, Bool.and_eq_true] at h
    rw [List.all_cons, flat_rel h.1 r, flats_rel h.2 rr]; rfl
theorem eqV_eqB {K : Frag} {H : Hp} {a b : D} {v u : V} (ha : flatD a = true) (hb : flatD b = true) (ra : RepV K H a v) (rb : RepV K H b u) : eqV v u = eqB a b := by
  cases a <;> first | (cases ha; done) | skip
  all_goals cases b <;> first | (cases hb; done) | skip
  all_goals cases ra
  all_goals cases rb
  all_goals first
    | rfl
    | (simp [eqV, eqB, Bool.beq_eq_decide_eq]; done)
    | (show (sv _ == sv _) = decide _; exact sv_inj)
theorem inV_any {K : Frag} {H : Hp} {x : D} {v : V} (hx : flatD x = true) (rx : RepV K H x v) : ∀ {ds : List D} {vs : List V}, ds.all flatD = true → RepL K H ds vs → inV v vs = ds.any fun y => eqB y x
  | [], _, _, e => by cases e; rfl
  | d :: ds, _, h, ⟨u, vr, e, r, rr⟩ => by
    subst e
    rw [List.all_cons, Bool.and_eq_true] at h
    have ih := inV_any hx rx h.2 rr
    unfold inV at ih ⊢
    rw [List.any_cons, List.any_cons, ih, eqV_eqB h.1 hx r rx]
theorem anyP : ∀ {ds : List D} {x : D}, pls 60 ds = true → pln x = true → ((toPs ds).any fun z => PyData.eqv z (toP x)) = ds.any fun y => eqB y x
  | [], _, _, _ => rfl
  | d :: ds, x, h, hx => by
    simp only [pls, Bool.and_eq_true] at h
    show ((toP d :: toPs ds).any _) = _
    rw [List.any_cons, List.any_cons, anyP h.2 hx, eqB_eqv d x 60 60 h.1 hx]
theorem DGet.fk {H : Hp} {a : Addr} {kvs : List (Key × V)} {k : Key} {o : Obj} (e : H a = some (.frz o (.dK kvs))) : DGet H a (kV k) (valV kvs k) := .inl ⟨kvs, k, .inr ⟨o, e⟩, rfl, rfl⟩
theorem mem_ok (neg : Bool) (hu : X.A.units + 65 < cLine) (hw : cx.w = X.w) : OpR X (compareOp (if neg then .NotIn else .In)) (r2of X.K cx fun a b S Q => memD a b S fun k => Q (.d (.bl (if neg then !k else k))) S) := by
  intro pins s σ H x y v u Q I rx ry w
  obtain ⟨S, a, b, hr, ra, rb, w⟩ := w
  cases a <;> first | exact w.elim | skip
  rename_i x'
  obtain ⟨c, w, hc⟩ := view_of hr rb w
  unfold memC at w
  split at w
  · obtain ⟨p, vs, rfl, hp, r1⟩ := hc
    have k := fin_bl w.2.2 hr
    rw [← anyP w.2.1 w.1] at k
    cases neg with
    | true => exact op_notInD hu pins s σ H _ _ v u Q I rx ry ⟨_, _, RepV.dp 60 _ _ w.1 ra, .lst (SqL.of hp) (RepL.dp 60 _ _ w.2.1 r1), pln_shaped w.1, plns_shaped w.2.1, k⟩
    | false => exact op_inD hu pins s σ H _ _ v u Q I rx ry ⟨_, _, RepV.dp 60 _ _ w.1 ra, .lst (SqL.of hp) (RepL.dp 60 _ _ w.2.1 r1), pln_shaped w.1, plns_shaped w.2.1, k⟩
  · obtain ⟨p, vs, rfl, hp, r1⟩ := hc
    have k := fin_bl w.2.2 hr
    rw [← inV_any w.1 ra w.2.1 r1] at k
    cases neg with
    | true => exact op_notIn_seq pins s σ H _ _ v u Q I rx ry ⟨p, vs, rfl, .inr hp, flat_rel w.1 ra, flats_rel w.2.1 r1, k⟩
    | false => exact op_in_seq pins s σ H _ _ v u Q I rx ry ⟨p, vs, rfl, .inr hp, flat_rel w.1 ra, flats_rel w.2.1 r1, k⟩
  · obtain ⟨p, ks, rfl, hp, r1⟩ := hc
    cases ry
    have k := fin_bl w.2 hr
    rw [r1.has w.1] at k
    have ex := key_rel w.1 ra
    subst ex
    cases neg with
    | true => exact d_notIn (by omega) I (DGet.k hp) rx fun s' I' => ⟨.bl _, H, I', rfl, k⟩
    | false => exact d_in (by omega) I (DGet.k hp) rx fun s' I' => ⟨.bl _, H, I', rfl, k⟩
  · obtain ⟨p, ks, o, rfl, hp, r1⟩ := hc
    cases ry
    have k := fin_bl w.2 hr
    rw [r1.has w.1] at k
    have ex := key_rel w.1 ra
    subst ex
    cases neg with
    | true => exact d_notIn (by omega) I (DGet.fk hp) rx fun s' I' => ⟨.bl _, H, I', rfl, k⟩
    | false => exact d_in (by omega) I (DGet.fk hp) rx fun s' I' => ⟨.bl _, H, I', rfl, k⟩
  · obtain ⟨p, xs, rfl, hp, r1⟩ := hc
    cases ry
    have k := fin_bl w.2 hr
    rw [hw] at hp
    cases neg with
    | true => exact dn_notIn (by omega) I (.inl hp) r1 w.1 ra rx fun s' I' => ⟨.bl _, H, I', rfl, k⟩
    | false => exact dn_in (by omega) I (.inl hp) r1 w.1 ra rx fun s' I' => ⟨.bl _, H, I', rfl, k⟩
  · obtain ⟨p, xs, o, rfl, hp, r1⟩ := hc
    cases ry
    have k := fin_bl w.2 hr
    rw [hw] at hp
    cases neg with
    | true => exact dn_notIn (by omega) I (.inr ⟨o, hp⟩) r1 w.1 ra rx fun s' I' => ⟨.bl _, H, I', rfl, k⟩
    | false => exact dn_in (by omega) I (.inr ⟨o, hp⟩) r1 w.1 ra rx fun s' I' => ⟨.bl _, H, I', rfl, k⟩
  · cases ra
    cases hc
    have k := fin_bl w hr
    cases neg with
    | true => exact op_notIn_sign pins s σ H _ _ v u Q I rx ry ⟨_, _, rfl, rfl, by simpa using k⟩
    | false => exact op_in_sign pins s σ H _ _ v u Q I rx ry ⟨_, _, rfl, rfl, by simpa using k⟩
  · exact w.elim
theorem memh_ok (neg : Bool) (hu : X.A.units + 65 < cLine) : OpR X (compareOp (if neg then .NotIn else .In)) (r2of X.K cx fun a b S Q => memH a b S fun k => Q (.d (.bl (if neg then !k else k))) S) := by
  intro pins s σ H x y v u Q I rx ry w
  obtain ⟨S, a, b, hr, ra, rb, w⟩ := w
  cases a <;> first | exact w.elim | skip
  rename_i x'
  obtain ⟨c, w, hc⟩ := view_of hr rb w
  cases c <;> first | exact w.elim | skip
  obtain ⟨p, vs, rfl, hp, r1⟩ := hc
  have k := fin_bl w.2.2 hr
  rw [← anyP w.2.1.2 w.1] at k
  obtain ⟨as, q1⟩ := Dp.reads I _ x v (RepV.dp 60 _ _ w.1 ra) rx
  have sh : SeqAt.shaped (toP (.tup _)) = true := pln_shaped (a := .tup _) w.2.1.1
  obtain ⟨bs, q2⟩ := Dp.reads I _ _ u (Dp.tup hp (RepL.dp 59 _ _ w.2.1.1 r1)) ry
  cases neg with
  | true => exact SeqAt.notIn_tuple_reads q2 q1 (SeqAt.canLay_of_shaped sh) (SeqAt.canLay_of_shaped (pln_shaped w.1)) (room_in_shaped (pln_shaped w.1) hu) ⟨.bl _, H, I, rfl, k⟩
  | false => exact SeqAt.in_tuple_reads q2 q1 (SeqAt.canLay_of_shaped sh) (SeqAt.canLay_of_shaped (pln_shaped w.1)) (room_in_shaped (pln_shaped w.1) hu) ⟨.bl _, H, I, rfl, k⟩
theorem op2_memh (hu : X.A.units + 65 < cLine) : OpR X (compareOp .In) (r2of X.K cx (op2D .memh)) := memh_ok (cx := cx) false hu
theorem op2_nmemh (hu : X.A.units + 65 < cLine) : OpR X (compareOp .NotIn) (r2of X.K cx (op2D .nmemh)) := memh_ok (cx := cx) true hu
theorem memr_ok (neg : Bool) (hu : X.A.units + 65 < cLine) : OpR X (compareOp (if neg then .NotIn else .In)) (r2of X.K cx fun a b S Q => memR a b S fun k => Q (.d (.bl (if neg then !k else k))) S) := by
  intro pins s σ H x y v u Q I rx ry w
  obtain ⟨S, a, b, hr, ra, rb, p, q, ps, h1, h2, h3, h4, h5, w⟩ := w
  have k := fin_bl w hr
  have d1 := resX_dp hr ra h1
  have d2 := resX_dp hr rb h2
  rcases h5 with rfl | rfl
  · obtain ⟨as, q1⟩ := Dp.reads I _ _ v d1 rx
    obtain ⟨bs, q2⟩ := Dp.reads I _ _ u d2 ry
    cases neg with
    | true => exact SeqAt.notIn_tuple_reads q2 q1 (SeqAt.canLay_of_shaped h4) (SeqAt.canLay_of_shaped h3) (room_in_shaped h3 hu) ⟨.bl _, H, I, rfl, k⟩
    | false => exact SeqAt.in_tuple_reads q2 q1 (SeqAt.canLay_of_shaped h4) (SeqAt.canLay_of_shaped h3) (room_in_shaped h3 hu) ⟨.bl _, H, I, rfl, k⟩
  · cases neg with
    | true => exact op_notInD hu pins s σ H _ _ v u Q I rx ry ⟨_, _, d1, d2, h3, h4, k⟩
    | false => exact op_inD hu pins s σ H _ _ v u Q I rx ry ⟨_, _, d1, d2, h3, h4, k⟩
theorem op2_memr (hu : X.A.units + 65 < cLine) : OpR X (compareOp .In) (r2of X.K cx (op2D .memr)) := memr_ok (cx := cx) false hu
theorem op2_nmemr (hu : X.A.units + 65 < cLine) : OpR X (compareOp .NotIn) (r2of X.K cx (op2D .nmemr)) := memr_ok (cx := cx) true hu
theorem op2_mem (hu : X.A.units + 65 < cLine) (hw : cx.w = X.w) : OpR X (compareOp .In) (r2of X.K cx (op2D .mem)) := mem_ok (cx := cx) false hu hw
theorem op2_nmem (hu : X.A.units + 65 < cLine) (hw : cx.w = X.w) : OpR X (compareOp .NotIn) (r2of X.K cx (op2D .nmem)) := mem_ok (cx := cx) true hu hw
theorem getI_atI {α β : Type} {xs : List α} {ys : List β} (h : xs.length = ys.length) {i : Int} {x : α} (e : getI xs i = some x) : ∃ j : Nat, xs[j]? = some x ∧ ∀ y, ys[j]? = some y → atI ys i = some y := by
  cases i with
  | ofNat n =>
    refine ⟨n, e, fun y hy => ?_⟩
    have hn : n < ys.length := (List.getElem?_eq_some_iff.mp hy).1
    unfold atI ixN
    rw [if_pos (by simp), if_pos (by simp; omega)]
    simpa using hy
  | negSucc n =>
    have e : (if n < xs.length then xs[xs.length - (n + 1)]? else none) = some x := e
    split at e
    · rename_i hn
      refine ⟨_, e, fun y hy => ?_⟩
      unfold atI ixN
      rw [if_neg (by omega), if_pos (by rw [← h]; omega)]
      have e2 : (Int.negSucc n + (ys.length : Int)).toNat = xs.length - (n + 1) := by rw [← h]; omega
      show ys[_]? = _
      rw [e2]
      exact hy
    · cases e
theorem RepL.getI {K : Frag} {H : Hp} {ds : List D} {vs : List V} {i : Int} {d : D} (r : RepL K H ds vs) (e : DL.getI ds i = some d) : ∃ v, atI vs i = some v ∧ RepV K H d v := by
  obtain ⟨j, h1, h2⟩ := getI_atI r.length e
  obtain ⟨v, h3, h4⟩ := r.get h1
  exact ⟨v, h2 v h3, h4⟩
theorem ix_ok (hu : X.A.units + 65 < cLine) (hw : cx.w = X.w) : IxR X (r2of X.K cx (op2D .idx)) := by
  intro value slice pins s σ H x y v u Q I rx ry w hs
  obtain ⟨S, a, b, hr, ra, rb, w⟩ := w
  have w : idxD a b S (KVof X.K cx S H Q) := w
  unfold idxD at w
  split at w
  · obtain ⟨c, w, hc⟩ := view_of hr ra w
    unfold idxC at w
    split at w
    · obtain ⟨p, vs, rfl, hp, r1⟩ := hc
      cases rb
      obtain ⟨z, e, k⟩ := w
      obtain ⟨zv, h1, h2⟩ := r1.getI e
      exact ix_list value slice pins s σ H _ _ v u Q I rx ry ⟨p, vs, _, zv, rfl, rfl, SqL.of hp, h1, fin_d k hr h2⟩ hs
    · obtain ⟨p, vs, rfl, hp, r1⟩ := hc
      cases rb
      obtain ⟨z, e, k⟩ := w
      obtain ⟨zv, h1, h2⟩ := r1.getI e
      exact ix_list value slice pins s σ H _ _ v u Q I rx ry ⟨p, vs, _, zv, rfl, rfl, hp, h1, fin_d k hr h2⟩ hs
    · obtain ⟨p, vs, rfl, hp, r1⟩ := hc
      cases rb
      obtain ⟨z, e, k⟩ := w
      obtain ⟨zv, h1, h2⟩ := r1.getI e
      exact ix_tup value slice pins s σ H _ _ v u Q I rx ry ⟨p, vs, _, zv, rfl, rfl, hp, h1, fin_d k hr h2⟩ hs
    · cases hc
      cases rb
      obtain ⟨hz, z, e, k⟩ := w
      rename_i _ cs i _
      obtain ⟨j, h1, h2⟩ := getI_atI (ys := (sv cs).cps.toList) (by simp) e
      exact ix_str value slice pins s σ H _ _ v u Q I rx ry ⟨_, _, z, rfl, rfl, by rw [sv_length]; exact hz, h2 z (by simpa using h1), fin_d k hr rfl⟩ hs
    · obtain ⟨p, ks, rfl, hp, r1⟩ := hc
      cases rx
      obtain ⟨hk, z, e, k⟩ := w
      obtain ⟨zv, h1, h2⟩ := (r1.get hk).1 _ e
      have ex := key_rel hk rb
      subst ex
      have g : DGet H p (kV (keyK _)) (some zv) := h1 ▸ DGet.k hp
      exact tail_any (dict_typeIs I g) PySem.F.slot_dict_getitem.lookup (d_getItem (by omega) I g ry fun w' s3 I3 rw' => ⟨zv, H, I3, rw', fin_d k hr h2⟩) hs
    · obtain ⟨p, ks, o, rfl, hp, r1⟩ := hc
      cases rx
      obtain ⟨hk, z, e, k⟩ := w
      obtain ⟨zv, h1, h2⟩ := (r1.get hk).1 _ e
      have ex := key_rel hk rb
      subst ex
      have g : DGet H p (kV (keyK _)) (some zv) := h1 ▸ DGet.fk hp
      exact tail_any (dict_typeIs I g) PySem.F.slot_dict_getitem.lookup (d_getItem (by omega) I g ry fun w' s3 I3 rw' => ⟨zv, H, I3, rw', fin_d k hr h2⟩) hs
    · obtain ⟨p, xs, rfl, hp, r1⟩ := hc
      cases rx
      obtain ⟨hk, z, e, k⟩ := w
      rw [hw] at hp
      exact tail_any (dn_typeIs I (.inl hp)) PySem.F.slot_dict_getitem.lookup (dn_getItem (by omega) I (.inl hp) r1 hk rb ry e fun zv w' s3 I3 rw' h2 => ⟨zv, H, I3, rw', fin_d k hr h2⟩) hs
    · obtain ⟨p, xs, o, rfl, hp, r1⟩ := hc
      cases rx
      obtain ⟨hk, z, e, k⟩ := w
      rw [hw] at hp
      exact tail_any (dn_typeIs I (.inr ⟨o, hp⟩)) PySem.F.slot_dict_getitem.lookup (dn_getItem (by omega) I (.inr ⟨o, hp⟩) r1 hk rb ry e fun zv w' s3 I3 rw' h2 => ⟨zv, H, I3, rw', fin_d k hr h2⟩) hs
    · exact w.elim
  · exact w.elim
end
noncomputable def c1of (K : Frag) (cx : Cls2) (o : O1) : List V → Hp → VK → Prop := fun vs H Q => ∃ v, vs = [v] ∧ r1of K cx (op1D o) v H Q
noncomputable def c2of (K : Frag) (cx : Cls2) (o : O2) : List V → Hp → VK → Prop := fun vs H Q => ∃ v u, vs = [v, u] ∧ r2of K cx (op2D o) v u H Q
section
variable {prog : Program} {w : World} {A : Around} {s : Shared} {E : Value → Shared → Prop}
noncomputable def laidL (h : Heap) (vs : List Value) : Heap := (h.push (seqObj "list" #[] 0)).update h.objs.size (Obj.mapSeq (· ++ vs.toArray))
theorem laidL_size (h : Heap) (vs : List Value) : (laidL h vs).objs.size = h.objs.size + 1 := by unfold laidL; rw [Heap.size_update, size_push']
theorem laidL_old {h : Heap} {vs : List Value} {b : Addr} {o : Obj} (e : h.get? b = some o) : (laidL h vs).get? b = some o := by
  unfold laidL
  rw [Heap.get?_update_ne _ _ _ _ (Nat.ne_of_lt (Heap.lt_size e))]
  exact Heap.get?_push_of_some _ e
theorem items_tup {l : Addr} {o : Obj} {n : Nat} {vs : List Value} {Q : List Value → Shared → Prop} (ho : s.heap.get? l = some o) (hc : o.cls = .type "tuple") (hd : o.data = .seq vs.toArray n) (hsz : vs.length ≤ sizeLine)
    (h : Q vs { s with heap := laidL s.heap vs }) : wpAny (model prog w) A (collect (.ref l)) Q E s := by
  have old : (s.heap.push (seqObj "list" #[] 0)).get? l = some o := Heap.get?_push_of_some _ ho
  have new : (s.heap.push (seqObj "list" #[] 0)).get? s.heap.objs.size = some (seqObj "list" #[] 0) := Heap.get?_push_size _ rfl
  have two : (Value.type "tuple" == Value.type "tuple") = true := rfl
  have lim : (#[] ++ vs.toArray).size ≤ sizeLine + 1 := by
    rw [Array.size_append, List.size_toArray]
    show 0 + vs.length ≤ _
    omega
  unfold collect
  refine wpAny_bind (wpAny_runValue (codeAny_builtin entry_proto_collect' (wpAny_bind (wpAny_newList (wpAny_pure ⟨Code.quiet_builtin _ (by decide +kernel), codeAny_builtin entry_list_iadd' ?_⟩)))))
  show wpAny _ _ (Builtin.List.listExtendWith (.ref s.heap.objs.size) (.ref l) (.ref s.heap.objs.size)) _ _ { s with heap := s.heap.push (seqObj "list" #[] 0) }
  unfold Builtin.List.listExtendWith
  refine wpAny_bind (wpAny_typeOf (T := "tuple") ⟨o, old, hc⟩ ?_)
  rw [if_pos (by rw [two]; simp)]
  refine wpAny_bind (listItems_at old hd (wpAny_bind (listItems_at (xs := #[]) (n := 0) new rfl ?_)))
  rw [if_neg (by simp)]
  refine wpAny_bind (listUpdate_at (xs := #[]) (n := 0) new rfl (wpAny_pure (wpAny_bind (wpAny_load (get?_update_seq new _) ?_))) (Nat.zero_le _) lim)
  refine wpAny_pure ?_
  rw [show ((#[] : Array Value) ++ vs.toArray).toList = vs by simp]
  exact h
theorem sorted_tupI {l : Addr} {o : Obj} {n : Nat} {vs : List Value} {ns : List Int} {Q : Value → Shared → Prop} (ho : s.heap.get? l = some o) (hc : o.cls = .type "tuple") (hd : o.data = .seq vs.toArray n) (hsz : vs.length ≤ sizeLine) (hi : IntsAre vs ns)
    (h : ∀ (out : List Value) (h' : Heap) (k : Nat), (∀ b o, s.heap.get? b = some o → h'.get? b = some o) → h'.get? (s.heap.objs.size + 1) = some (seqObj "list" out.toArray k) → IntsAre out (out.map SrtO.iv) → (out.map SrtO.iv).Perm ns → (out.map SrtO.iv).Pairwise (· ≤ ·) → Q (.ref (s.heap.objs.size + 1)) { s with heap := h' }) :
    wpAny (model prog w) A (call (.builtin "sorted") [.ref l]) Q E s := by
  refine Calls.call_function_entry kind_sorted plain_sorted entry_sorted (args_sorted1 _) ?_
  unfold Builtin.«sorted»
  refine wpAny_bind (m := checkCount "sorted" 1 1 _) (wpAny_pure (wpAny_bind (items_tup ho hc hd hsz (wpAny_bind (wpAny_newList ?_ hsz)))))
  show wpAny _ _ _ _ _ { s with heap := (laidL s.heap vs).push (seqObj "list" vs.toArray 0) }
  rw [laidL_size]
  have new : ((laidL s.heap vs).push (seqObj "list" vs.toArray 0)).get? (s.heap.objs.size + 1) = some (seqObj "list" vs.toArray 0) := by
    rw [← laidL_size s.heap vs]; exact Heap.get?_push_size _ rfl
  have old : ∀ b o, s.heap.get? b = some o → b ≠ s.heap.objs.size + 1 ∧ ((laidL s.heap vs).push (seqObj "list" vs.toArray 0)).get? b = some o := fun b o e =>
    ⟨Nat.ne_of_lt (Nat.lt_succ_of_lt (Heap.lt_size e)), Heap.get?_push_of_some _ (laidL_old e)⟩
  refine wpAny_bind (wpAny_holding (wpAny_call_entry slot_list_sort ⟨_, new, rfl⟩ entry_list_sort (SrtO.list_sort_ord SrtO.swo_int new hsz (fun h2 => SrtO.ints_sortable hi h2) fun out hs hb => ⟨_, rfl, wpAny_pure ⟨_, rfl, ?_⟩⟩) (args_list_sort _)))
  obtain ⟨k1, k2, k3⟩ := SrtO.ints_out hi hs hb
  obtain ⟨k, ek⟩ := sortedHeap_at (out := out.toArray) new
  exact h out _ k (fun b o e => (sortedHeap_old (old b o e).1 (Heap.lt_size (old b o e).2)).trans (old b o e).2) ek k1 k2 k3
end
section
variable {X : Cx} {cx : Cls2}
theorem op1_neg : UnR X (unaryOp .USub) (r1of X.K cx (op1D .neg)) := by
  intro pins s σ H x v Q I rx w
  obtain ⟨S, a, hr, ra, w⟩ := w
  have w : negD a S _ := w
  unfold negD at w
  split at w
  · cases ra
    exact un_neg pins s σ H _ v Q I rx ⟨_, rfl, fin_int w hr⟩
  · exact w.elim
theorem view_len {K : Frag} {H : Hp} {c : Cn} {v : V} {n : Nat} (hc : CnR K cx H c v) (e : lenC c = some n) : LenV K v H n ∨ ∃ a ks, v = .ref a ∧ H a = some (.dK ks) ∧ n = ks.length := by
  cases c with
  | l ds => obtain ⟨p, vs, rfl, hp, r⟩ := hc; cases e; exact .inl (.inl ⟨vs, SqL.of hp, r.length⟩)
  | f ds => obtain ⟨p, vs, rfl, hp, r⟩ := hc; cases e; exact .inl (.inl ⟨vs, hp, r.length⟩)
  | t ds => obtain ⟨p, vs, rfl, hp, r⟩ := hc; cases e; exact .inl (.inr ⟨vs, hp, r.length⟩)
  | k ds => obtain ⟨p, vs, rfl, hp, r⟩ := hc; cases e; exact .inr ⟨p, vs, rfl, hp, r.length⟩
  | s cs =>
    cases hc
    simp only [lenC] at e
    split at e
    · cases e
      rename_i h
      exact .inl ⟨by rw [sv_length]; exact h, (sv_length _).symm⟩
    · cases e
  | i _ _ => cases e
  | kf _ => cases e
  | kn _ => cases e
  | kfn _ => cases e
  | e _ => exact hc.elim
theorem call1_len : CallR X (.builtin "len") (c1of X.K cx .len) := by
  intro pins s σ H xs us Q I r w
  obtain ⟨v, rfl, S, a, hr, ra, w⟩ := w
  obtain ⟨c, w, hc⟩ := view_of hr ra w
  obtain ⟨n, e, k⟩ := w
  have k := fin_int k hr
  rcases view_len hc e with h | ⟨p, ks, rfl, hp, rfl⟩
  · exact call_len pins s σ H _ us Q I r ⟨_, _, rfl, h, k⟩
  · exact call_lenD pins s σ H _ us Q I r ⟨_, _, rfl, hp, k⟩
theorem call1_int : CallR X (.type "int") (c1of X.K cx .int) := by
  intro pins s σ H xs us Q I r w
  obtain ⟨v, rfl, S, a, hr, ra, w⟩ := w
  have w : toIntD a S _ := w
  unfold toIntD at w
  split at w <;> first | exact w.elim | skip
  all_goals cases ra
  · exact call_int1 pins s σ H _ us Q I r (.inl ⟨_, rfl, fin_int w hr⟩)
  · exact call_int1 pins s σ H _ us Q I r (.inr ⟨_, rfl, fin_int w hr⟩)
  · obtain ⟨n, ⟨h1, h2⟩, w⟩ := w
    exact call_int_str pins s σ H _ us Q I r ⟨_, n, rfl, h1, by rw [sv_length]; exact h2, fin_int w hr⟩
theorem toStr_sv (i : Int) : ((toString i : String) : Str) = sv ((toString i : String).toList.map Char.toNat) := Str.ofString_eq_toList _
mutual
theorem sh_toP : ∀ (n : Nat) (d : D), pl n d = true → shD d = true → shP (toP d) = true ∧ shN (toP d) = shL d
  | _, .int i, _, h => ⟨h, rfl⟩
  | _, .str s, _, h => ⟨by show decide ((sv s).cps.toList ∈ shWords) = true; exact h, rfl⟩
  | _, .non, _, h => by cases h
  | _, .bl _, _, h => by cases h
  | _, .ref _, _, h => by cases h
  | _, .xt _, _, h => by cases h
  | 0, .tup ds, p, _ => by simp [pl] at p
  | n + 1, .tup ds, p, h => by
    obtain ⟨h1, h2⟩ := sh_toPs n ds (by simpa [pl] using p) h
    exact ⟨h1, by show 5 + shNs (toPs ds) = 5 + shLs ds; rw [h2]⟩
theorem sh_toPs : ∀ (n : Nat) (ds : List D), pls n ds = true → shDs ds = true → shPs (toPs ds) = true ∧ shNs (toPs ds) = shLs ds
  | _, [], _, _ => ⟨rfl, rfl⟩
  | n, d :: ds, p, h => by
    simp only [pls, Bool.and_eq_true] at p
    have h : (shD d && shDs ds) = true := h
    rw [Bool.and_eq_true] at h
    obtain ⟨h1, h2⟩ := sh_toP n d p.1 h.1
    obtain ⟨h3, h4⟩ := sh_toPs n ds p.2 h.2
    exact ⟨by show (shP (toP d) && shPs (toPs ds)) = true; rw [h1, h3]; rfl, by show shN (toP d) + 2 + shNs (toPs ds) = shL d + 2 + shLs ds; rw [h2, h4]⟩
end
theorem call1_str (hu : X.A.units + 64 < cLine) : CallR X (.type "str") (c1of X.K cx .str) := by
  intro pins s σ H xs us Q I r w
  obtain ⟨v, rfl, S, a, hr, ra, w⟩ := w
  have w : strD a S _ := w
  unfold strD at w
  split at w <;> first | exact w.elim | skip
  · cases ra
    refine call_str_int pins s σ H _ us Q I r ⟨_, rfl, w.1, fin_d w.2 hr ?_⟩
    show V.str _ = V.str _
    rw [toStr_sv]
  · rename_i ds _
    obtain ⟨t, vs, rfl, q, rr⟩ := ra
    obtain ⟨u, rfl, r1⟩ := vals1 r
    have hd : Dp X.K H (.ref t) (.tuple (toPs ds)) := .tup q (RepL.dp 40 _ _ w.1.1 rr)
    obtain ⟨as, rd⟩ := Dp.reads I _ _ u hd r1
    cases r1
    obtain ⟨h1, h2⟩ := sh_toPs 40 ds w.1.1 w.1.2.1
    have h3 := (pls_lay 40 ds w.1.1).2
    refine str_tup rd h1 (by rw [h2]; have := w.1.2.2; rw [sizeLine_eq]; omega) (by omega) (fun _ _ e => e) fun x ox u tk => ?_
    refine ⟨.str x, H, I.tok _, ⟨_, rfl⟩, fin_d (w.2 x.cps.toList ox.toB) hr ?_⟩
    show V.str _ = V.str _
    cases x; rfl
theorem view_seq {K : Frag} {H : Hp} {c : Cn} {v : V} {ds : List D} (hc : CnR K cx H c v) (e : seqOf c = some ds) : ∃ p vs, v = .ref p ∧ (SqL K H p vs ∨ SqT K H p vs) ∧ RepL K H ds vs ∧ (SqT K H p vs ∨ ¬ ∃ es, c = .t es) := by
  cases c with
  | l ds => obtain ⟨p, vs, rfl, hp, r⟩ := hc; cases e; exact ⟨p, vs, rfl, .inl (SqL.of hp), r, .inr fun ⟨_, z⟩ => by cases z⟩
  | f ds => obtain ⟨p, vs, rfl, hp, r⟩ := hc; cases e; exact ⟨p, vs, rfl, .inl hp, r, .inr fun ⟨_, z⟩ => by cases z⟩
  | t ds => obtain ⟨p, vs, rfl, hp, r⟩ := hc; cases e; exact ⟨p, vs, rfl, .inr hp, r, .inl hp⟩
  | _ => cases e
theorem call1_list : CallR X (.type "list") (c1of X.K cx .list) := by
  intro pins s σ H xs us Q I r w
  obtain ⟨v, rfl, S, a, hr, ra, w⟩ := w
  obtain ⟨c, w, hc⟩ := view_of hr ra w
  obtain ⟨ds, e, k⟩ := w
  obtain ⟨p, vs, rfl, hp, r1, _⟩ := view_seq hc e
  exact call_list_of pins s σ H _ us Q I r ⟨p, vs, rfl, hp, fin_vl k hr r1⟩
theorem call1_tuple : CallR X (.type "tuple") (c1of X.K cx .tuple) := by
  intro pins s σ H xs us Q I r w
  obtain ⟨v, rfl, S, a, hr, ra, w⟩ := w
  obtain ⟨c, w, hc⟩ := view_of hr ra w
  obtain ⟨ds, e, k⟩ := w
  obtain ⟨p, vs, rfl, hp, r1, _⟩ := view_seq hc e
  rcases hp with hp | hp
  · exact call_tuple_of pins s σ H _ us Q I r ⟨p, vs, rfl, .inl ⟨hp, fin_tup k hr r1⟩⟩
  · exact call_tuple_of pins s σ H _ us Q I r ⟨p, vs, rfl, .inr ⟨hp, fin_d k hr ⟨p, vs, rfl, hp, r1⟩⟩⟩
theorem call1_tupleX : CallR X (.type "tuple") (c1of X.K cx .tupleX) := by
  intro pins s σ H xs us Q I r w
  obtain ⟨v, rfl, S, a, hr, ra, w⟩ := w
  obtain ⟨c, w, hc⟩ := view_of hr ra w
  obtain ⟨ds, rfl, k⟩ := w
  obtain ⟨p, vs, rfl, hp, r1⟩ := hc
  obtain ⟨u, rfl, rx⟩ := vals1 r
  cases rx
  obtain ⟨its, rv, pl, hz⟩ := I.list (SqL.of hp)
  have hlen := rv.length
  refine call_tuple_list pl.isList (fun h' kp => ?_) (by simp only [List.size_toArray]; omega)
  have J : Inv X pins σ H { s with heap := h' } := I.kept (t' := s.toks) kp
  have fresh : H h'.objs.size = none := J.hok.fresh (Nat.le_refl _)
  have J2 : Inv X pins σ (upd H h'.objs.size (.frz { cls := .type "tuple", data := .seq its.toArray } (.tup vs))) { s with heap := h'.push { cls := .type "tuple", data := .seq its.toArray } } :=
    J.laid (t' := s.toks) (fun b o e => Heap.get?_push_of_some _ e) (Nat.le_refl _) ⟨Heap.get?_push_size _ rfl, hz, its, rv, IsTup.new _ _⟩
  refine ⟨.ref h'.objs.size, _, J2, rfl, k _ _ (hr.upd0 (hr.free fresh) (tupS_new fresh)) (.new fresh) ⟨⟨_, vs, rfl, ⟨_, upd_same, rfl⟩, r1.keep (tupS_new fresh)⟩, fun e => by cases e⟩⟩
theorem dic_ints {K : Frag} {H : Hp} : ∀ {kvs : List (D × D)} {ks : List (Key × V)} {ns : List Int}, DicR K H kvs ks → kvs.map Prod.fst = ns.map D.int → ks.map (·.1) = ns.map Sum.inl
  | [], _, ns, .nil, e => by
    cases ns with
    | nil => rfl
    | cons n ns => cases e
  | p :: kvs, q :: ks, ns, .cons h t, e => by
    cases ns with
    | nil => cases e
    | cons n ns =>
      simp only [List.map_cons, List.cons.injEq] at e ⊢
      refine ⟨?_, dic_ints t e.2⟩
      have h := h.1
      rw [e.1] at h
      exact h
theorem call1_sorted (hcalm : X.calm = true) : CallR X (.builtin "sorted") (c1of X.K cx .sorted) := by
  intro pins s σ H xs us Q I r w
  obtain ⟨v, rfl, S, a, hr, ra, w⟩ := w
  obtain ⟨c, w, hc⟩ := view_of hr ra w
  obtain ⟨ns, e, k⟩ := w
  rcases e with rfl | ⟨kvs, rfl, e, h64⟩ | rfl
  rotate_left 2
  · obtain ⟨p, vs, rfl, hp, r1⟩ := hc
    have e := r1.ints
    subst e
    obtain ⟨u, rfl, rx⟩ := vals1 r
    cases rx
    obtain ⟨its, rv, ⟨o, ho, hcl, n, hd⟩, hz⟩ := I.tuple hp
    refine sorted_tupI ho hcl hd (by rw [← rv.length]; exact hz) rv.ints fun out h' kk kp e2 k1 k2 k3 => ?_
    have hlen : ((out.map SrtO.iv).map V.int).length ≤ sizeLine := by
      rw [List.length_map, k2.length_eq]
      rw [List.length_map] at hz
      exact hz
    exact ⟨.ref _, upd H (s.heap.objs.size + 1) (.lst ((out.map SrtO.iv).map V.int)), I.laid (t' := s.toks) kp (Nat.le_succ _) ⟨hlen, out, kk, vals_of_ints k1, e2⟩, rfl, fin_vl (k _ k2 k3) hr (RepL.ofInts _) _ (I.hok.fresh (Nat.le_succ _))⟩
  · obtain ⟨p, vs, rfl, hp, r1⟩ := hc
    have e := r1.ints
    subst e
    exact cr_sortedI pins s σ H _ us Q I r ⟨p, ns, rfl, SqL.of hp, fun ns' q h1 h2 n => fin_vl (k ns' h1 h2) hr (RepL.ofInts ns') q n⟩
  · obtain ⟨p, ks, rfl, hp, rd⟩ := hc
    exact call_sortedDI hcalm pins s σ H _ us Q I r ⟨p, ks, ns, rfl, .inl hp, dic_ints rd e, h64, fun ns' q h1 h2 n => fin_vl (k ns' h1 h2) hr (RepL.ofInts ns') q n⟩
theorem call1_dict : CallR X (.type "dict") (c1of X.K cx .dict) := by
  intro pins s σ H xs us Q I r w
  obtain ⟨v, rfl, S, a, hr, ra, w⟩ := w
  obtain ⟨c, w, hc⟩ := view_of hr ra w
  obtain ⟨kvs, rfl, w⟩ := w
  obtain ⟨p, ks, rfl, hp, rd⟩ := hc
  exact call_dictD pins s σ H _ us Q I r ⟨p, ks, rfl, .inl hp, fun q hq => w _ _ (hr.upd0 (hr.free hq) (tupS_new hq)) (.new hq) ⟨⟨q, ks, rfl, upd_same, hr.free hq, rd.keep (tupS_new hq)⟩, fun _ => ⟨q, rfl, hq⟩⟩⟩
theorem call1_all (hc : X.calm = true) : CallR X (.builtin "all") (c1of X.K cx .all) := by
  intro pins s σ H xs us Q I r w
  obtain ⟨v, rfl, S, a, hr, ra, w⟩ := w
  obtain ⟨c, w, hc'⟩ := view_of hr ra w
  obtain ⟨ds, ns, rfl, rfl, k⟩ := w
  obtain ⟨p, vs, rfl, hp, r1⟩ := hc'
  have e := r1.bls
  subst e
  exact cr_all hc pins s σ H _ us Q I r ⟨p, ns, rfl, SqL.of hp, fin_bl k hr⟩
theorem call1_any (hc : X.calm = true) : CallR X (.builtin "any") (c1of X.K cx .any) := by
  intro pins s σ H xs us Q I r w
  obtain ⟨v, rfl, S, a, hr, ra, w⟩ := w
  obtain ⟨c, w, hc'⟩ := view_of hr ra w
  obtain ⟨ds, ns, rfl, rfl, k⟩ := w
  obtain ⟨p, vs, rfl, hp, r1⟩ := hc'
  have e := r1.bls
  subst e
  exact cr_any hc pins s σ H _ us Q I r ⟨p, ns, rfl, SqL.of hp, fin_bl k hr⟩
theorem call2_min (hc : X.calm = true) : CallR X (.builtin "min") (c2of X.K cx .min) := by
  intro pins s σ H xs us Q I r w
  obtain ⟨v, u, rfl, w⟩ := w
  obtain ⟨i, j, rfl, rfl, k⟩ := rI0_elim (gd := fun i j => .int (if j < i then j else i)) (fun _ _ _ => rfl) (fun _ _ _ _ h => h) w
  exact call_min2 hc pins s σ H _ us Q I r ⟨i, j, rfl, k⟩
theorem call2_max (hc : X.calm = true) : CallR X (.builtin "max") (c2of X.K cx .max) := by
  intro pins s σ H xs us Q I r w
  obtain ⟨v, u, rfl, w⟩ := w
  obtain ⟨i, j, rfl, rfl, k⟩ := rI0_elim (gd := fun i j => .int (if j > i then j else i)) (fun _ _ _ => rfl) (fun _ _ _ _ h => h) w
  exact call_max2 hc pins s σ H _ us Q I r ⟨i, j, rfl, k⟩
noncomputable def Ty.nm : Ty → String
  | .int => "int"
  | .bool => "bool"
  | .str => "str"
  | .tuple => "tuple"
  | .list => "list"
  | .dict => "dict"
noncomputable def Ty.all : List Ty := [.int, .bool, .str, .tuple, .list, .dict]
theorem kit_non (t : Ty) : kitB "NoneType" t.nm = some false := by cases t <;> decide +kernel
theorem kit_bool (t : Ty) : kitB "bool" t.nm = some (t = .bool || t = .int) := by cases t <;> decide +kernel
theorem kit_int (t : Ty) : kitB "int" t.nm = some (decide (t = .int)) := by cases t <;> decide +kernel
theorem kit_str (t : Ty) : kitB "str" t.nm = some (decide (t = .str)) := by cases t <;> decide +kernel
theorem kit_tuple (t : Ty) : kitB "tuple" t.nm = some (decide (t = .tuple)) := by cases t <;> decide +kernel
theorem kit_list (t : Ty) : kitB "list" t.nm = some (decide (t = .list)) := by cases t <;> decide +kernel
theorem kit_dict (t : Ty) : kitB "dict" t.nm = some (decide (t = .dict)) := by cases t <;> decide +kernel
theorem tupTy {K : Frag} {H : Hp} {a : Addr} {vs : List V} (h : SqT K H a vs) : TyX K H (.ref a) (.type "tuple") := by
  rcases h with (h | ⟨o, h⟩) | ⟨o, _, _, h, c, _⟩
  · exact .base (.tup h)
  · exact .fTuple h
  · exact .kTuple h c
theorem isi_ok (t : Ty) : CallR X (.builtin "isinstance") (fun vs H Q => ∃ v, vs = [v, .ty t.nm] ∧ r1of X.K cx (op1D (.isi t)) v H Q) := by
  intro pins s σ H xs us Q I r w
  obtain ⟨v, rfl, S, a, hr, ra, w⟩ := w
  have fin : ∀ {T : String} {b : Bool}, TyX X.K H v (.type T) → kitB T t.nm = some b → Q (.bl b) H → wpAny (model X.prog X.w) X.A (call (.builtin "isinstance") us) (EP X pins σ Q) X.xe s :=
    fun {T b} h1 h2 h3 => call_isi pins s σ H _ us Q I r ⟨v, .ty t.nm, .type T, .type t.nm, b, rfl, .ty _, h1, kit_ty h2, h3⟩
  have w : isiD t a S _ := w
  unfold isiD at w
  split at w
  · obtain ⟨b, e, k⟩ := w
    have k := fin_bl k hr
    unfold Ty.isD at e
    split at e
    · cases e; cases ra; exact fin (.base .non) (kit_non t) k
    · cases e; cases ra; exact fin (.base (.bl _)) (kit_bool t) k
    · cases e; cases ra; exact fin (.base (.int _)) (kit_int t) k
    · cases e; cases ra; exact fin (.base (.str _)) (kit_str t) k
    · cases e; obtain ⟨p, vs, rfl, hp, r1⟩ := ra; exact fin (tupTy hp) (kit_tuple t) k
    · cases e; obtain ⟨p, vs, rfl, hp, r1⟩ := ra; exact fin (tupTy hp.t) (kit_tuple t) k
    · cases ra
      split at e
      · rename_i h; cases e
        obtain ⟨vs, hp, _⟩ := hr _ _ h
        exact fin (.base (.lst hp)) (kit_list t) k
      · rename_i h; cases e
        obtain ⟨vs, hp, _⟩ := hr _ _ h
        exact fin (.base (.dK hp)) (kit_dict t) k
      · cases e
  · obtain ⟨p, vs, rfl, hp, _⟩ := ra
    exact fin (.base (.lst hp)) (kit_list t) (fin_bl w hr)
  · exact w.elim
theorem cut_all {vs : List V} {lo hi : Option Int} (h : HT.sIx vs.length 0 lo = 0 ∧ HT.sIx vs.length vs.length hi = vs.length) : cutV vs lo hi = vs := by
  unfold cutV
  rw [h.1, h.2]
  simp
noncomputable def s1of (K : Frag) (cx : Cls2) : V → Option Int → Option Int → Hp → VK → Prop := fun x lo hi H Q => ∃ S a, Rel K cx S H ∧ RepX K H S a x ∧ view a S fun c => slcC c lo hi S (KVof K cx S H Q)
theorem slc_ok : SlR X (s1of X.K cx) := by
  intro pins s σ H x v vl vu lo hi sl Q I rx hs pl pu w
  obtain ⟨S, a, hr, ra, w⟩ := w
  obtain ⟨c, w, hc⟩ := view_of hr ra w
  cases c with
  | l ds =>
    obtain ⟨p, vs, rfl, hp, r1⟩ := hc
    exact sl_list pins s σ H _ v vl vu lo hi sl Q I rx hs pl pu ⟨p, vs, rfl, SqL.of hp, fin_vl w hr (r1.cut lo hi)⟩
  | f ds =>
    obtain ⟨p, vs, rfl, hp, r1⟩ := hc
    exact sl_list pins s σ H _ v vl vu lo hi sl Q I rx hs pl pu ⟨p, vs, rfl, hp, fin_vl w hr (r1.cut lo hi)⟩
  | t ds =>
    obtain ⟨p, vs, rfl, hp, r1⟩ := hc
    refine sl_tupA pins s σ H _ v vl vu lo hi sl Q I rx hs pl pu ⟨p, vs, rfl, hp, fun h => ?_, fun _ => fin_tup w hr (r1.cut lo hi)⟩
    have e := r1.cut lo hi
    rw [cut_all h] at e
    exact fin_d w hr ⟨p, vs, rfl, hp, e⟩
  | s cs =>
    cases hc
    refine sl_str pins s σ H _ v vl vu lo hi sl Q I rx hs pl pu ⟨_, rfl, by rw [sv_length]; exact w.1, ?_⟩
    refine fin_d w.2 hr ?_
    show V.str _ = V.str _
    congr 1
  | _ => exact w.elim
theorem seqIx_nat {n m : Nat} (h : n < m) : seqIndex? (Int.ofNat n) m = some n := by
  have e : seqIndex? (Int.ofNat n) m = if (0 ≤ (if (n : Int) < 0 then (n : Int) + m else n) && (if (n : Int) < 0 then (n : Int) + m else n) < m) = true then some (if (n : Int) < 0 then (n : Int) + m else n).toNat else none := rfl
  have e1 : (if (n : Int) < 0 then (n : Int) + m else n) = (n : Int) := if_neg (by omega)
  rw [e, e1, if_pos (by simp; omega)]
  simp
theorem ixN_nat {n m : Nat} (h : n < m) : ixN m (Int.ofNat n) = some n := by
  unfold ixN
  simp only [Int.ofNat_eq_natCast]
  rw [if_pos (by omega), if_pos (by omega)]
  simp
noncomputable def MOut (K : Frag) (cx : Cls2) (H : Hp) (a : Addr) (c' : Cn) (H' : Hp) : Prop := ∃ h', H' = upd H a h' ∧ CnR K cx H' c' (.ref a) ∧ ∀ o, H a = some o → seqish o = false
noncomputable def mOf (K : Frag) (cx : Cls2) (m : M) : V → List V → Hp → VK → Prop := fun x vs H Q => ∃ S c a xs, Rel K cx S H ∧ x = .ref a ∧ CnR K cx H c (.ref a) ∧ Paired (RepX K H S) xs vs ∧
  mutC m c xs S fun c' r => ∀ H' v, MOut K cx H a c' H' → RepV K H' r v → Q v H'
theorem lst_tups {K : Frag} {H : Hp} {a : Addr} {xs : List V} {h : HO} (hp : H a = some (.lst xs)) : TupS K H (upd H a h) := tupS_upd fun o e => by rw [hp] at e; cases e; rfl
theorem dic_tups {K : Frag} {H : Hp} {a : Addr} {xs : List (Key × V)} {h : HO} (hp : H a = some (.dK xs)) : TupS K H (upd H a h) := tupS_upd fun o e => by rw [hp] at e; cases e; rfl
theorem mout_l {K : Frag} {H : Hp} {a : Addr} {xs ys : List V} {ds : List D} (hp : H a = some (.lst xs)) (r : RepL K H ds ys) : MOut K cx H a (.l ds) (upd H a (.lst ys)) :=
  ⟨_, rfl, ⟨a, ys, rfl, upd_same, r.keep (lst_tups hp)⟩, fun o e => by rw [hp] at e; cases e; rfl⟩
theorem mout_k {K : Frag} {H : Hp} {a : Addr} {xs ys : List (Key × V)} {ds : List (D × D)} (hp : H a = some (.dK xs)) (r : DicR K H ds ys) : MOut K cx H a (.k ds) (upd H a (.dK ys)) :=
  ⟨_, rfl, ⟨a, ys, rfl, upd_same, r.keep (dic_tups hp)⟩, fun o e => by rw [hp] at e; cases e; rfl⟩
theorem mut_append : MtR X "list.append" (mOf X.K cx .append) := by
  intro pins s σ H x vs v us Q I rx rv w
  obtain ⟨S, c, a, xs, hr, rfl, hc, ra, w⟩ := w
  unfold mutC at w
  split at w <;> first | (rename_i h1 _; cases h1; done) | (rename_i h1; cases h1; done) | exact w.elim | skip
  obtain ⟨p, ys, e, hp, r1⟩ := hc
  cases e
  cases ra with
  | cons q t =>
    cases t
    exact mt_append pins s σ H _ _ v us Q I rx rv ⟨a, ys, _, rfl, rfl, hp, by rw [← r1.length]; exact w.1, w.2 _ _ (mout_l hp (r1.append (RepL.cons q RepL.nil))) rfl⟩
theorem mut_pop : MtR X "list.pop" (mOf X.K cx .pop) := by
  intro pins s σ H x vs v us Q I rx rv w
  obtain ⟨S, c, a, xs, hr, rfl, hc, ra, w⟩ := w
  unfold mutC at w
  split at w <;> first | (rename_i h1 _; cases h1; done) | (rename_i h1; cases h1; done) | exact w.elim | skip
  obtain ⟨p, ys, e, hp, r1⟩ := hc
  cases e
  cases ra
  obtain ⟨y, e, w⟩ := w
  obtain ⟨yv, h1, h2⟩ := r1.get e
  exact mt_pop pins s σ H _ _ v us Q I rx rv ⟨a, ys, yv, rfl, rfl, hp, by rw [← r1.length]; exact h1, w _ _ (mout_l hp r1.dropLast) (h2.keep (lst_tups hp))⟩
theorem mut_popAt : MtR X "list.pop" (mOf X.K cx .popAt) := by
  intro pins s σ H x vs v us Q I rx rv w
  obtain ⟨S, c, a, xs, hr, rfl, hc, ra, w⟩ := w
  unfold mutC at w
  split at w <;> first | (rename_i h1 _; cases h1; done) | (rename_i h1; cases h1; done) | exact w.elim | skip
  obtain ⟨p, ys, e, hp, r1⟩ := hc
  cases e
  cases ra with
  | cons q t =>
    cases t
    obtain ⟨y, e, w⟩ := w
    obtain ⟨yv, h1, h2⟩ := r1.get e
    cases q
    obtain ⟨z, its, n, r, hl, e⟩ := I.lstM hp
    have hn := (List.getElem?_eq_some_iff.mp h1).1
    have hl2 := line63
    refine mt_popAt pins s σ H _ _ v us Q I rx rv ⟨a, ys, _, _, yv, rfl, rfl, hp, ?_, ?_, ?_, h1, w _ _ (mout_l hp (r1.eraseIdx _)) (h2.keep (lst_tups hp))⟩
    · exact Int.le_trans (by decide) (Int.natCast_nonneg _)
    · show ((_ : Nat) : Int) < 2 ^ 63
      omega
    · exact seqIx_nat hn
theorem mut_remove : MtR X "list.remove" (mOf X.K cx .remove) := by
  intro pins s σ H x vs v us Q I rx rv w
  obtain ⟨S, c, a, xs, hr, rfl, hc, ra, w⟩ := w
  unfold mutC at w
  split at w <;> first | (rename_i h1 _; cases h1; done) | (rename_i h1; cases h1; done) | exact w.elim | skip
  obtain ⟨p, ys, e, hp, r1⟩ := hc
  cases e
  obtain ⟨ns, j, e1, e2, e3, w⟩ := w
  subst e1
  have ey := r1.ints
  subst ey
  cases ra with
  | cons q t =>
    cases t
    cases q
    exact mt_remove pins s σ H _ _ v us Q I rx rv ⟨a, ns, _, j, rfl, rfl, hp, e2, e3, w _ _ (mout_l hp (RepL.ofInts _)) rfl⟩
theorem mut_insert : MtR X "list.insert" (mOf X.K cx .insert) := by
  intro pins s σ H x vs v us Q I rx rv w
  obtain ⟨S, c, a, xs, hr, rfl, hc, ra, w⟩ := w
  unfold mutC at w
  split at w <;> first | (rename_i h1 _; cases h1; done) | (rename_i h1; cases h1; done) | exact w.elim | skip
  obtain ⟨p, ys, e, hp, r1⟩ := hc
  cases e
  cases ra with
  | cons q t =>
    cases t with
    | cons q2 t =>
      cases t
      cases q
      obtain ⟨w1, w2, w⟩ := w
      refine mt_insert pins s σ H _ _ v us Q I rx rv ⟨a, ys, _, _, rfl, rfl, hp, by rw [← r1.length]; exact w1, Int.natCast_nonneg _, ?_, w _ _ (mout_l hp ?_) rfl⟩
      · show ((_ : Nat) : Int) < 2 ^ 63
        omega
      · simp only [Int.ofNat_eq_natCast, Int.toNat_natCast]
        exact ((r1.take _).append (RepL.cons q2 RepL.nil)).append (r1.drop _)
theorem mut_extend : MtR X "list.extend" (mOf X.K cx .extend) := by
  intro pins s σ H x vs v us Q I rx rv w
  obtain ⟨S, c, a, xs, hr, rfl, hc, ra, w⟩ := w
  unfold mutC at w
  split at w <;> first | (rename_i h1 _; cases h1; done) | (rename_i h1; cases h1; done) | exact w.elim | skip
  obtain ⟨p, ys, e, hp, r1⟩ := hc
  cases e
  cases ra with
  | cons q t =>
    cases t
    obtain ⟨c', ⟨es, rfl, hz, w⟩, hc'⟩ := view_of hr q w
    obtain ⟨p', zs, rfl, hp', r2⟩ := hc'
    exact mt_extend pins s σ H _ _ v us Q I rx rv ⟨a, p', ys, zs, rfl, rfl, hp, hp', by rw [← r1.length, ← r2.length]; exact hz, w _ _ (mout_l hp (r1.append r2)) rfl⟩
theorem mut_clear : MtR X "list.clear" (mOf X.K cx .clear) := by
  intro pins s σ H x vs v us Q I rx rv w
  obtain ⟨S, c, a, xs, hr, rfl, hc, ra, w⟩ := w
  unfold mutC at w
  split at w <;> first | (rename_i h1 _; cases h1; done) | (rename_i h1; cases h1; done) | exact w.elim | skip
  obtain ⟨p, ys, e, hp, r1⟩ := hc
  cases e
  cases ra
  exact mt_clear pins s σ H _ _ v us Q I rx rv ⟨a, ys, rfl, rfl, hp, w _ _ (mout_l hp RepL.nil) rfl⟩
noncomputable def pset (K : Frag) (cx : Cls2) : TSet := fun x i v H Q => ∃ S c a kd vd, Rel K cx S H ∧ x = .ref a ∧ CnR K cx H c (.ref a) ∧ RepV K H kd i ∧ RepV K H vd v ∧
  mutC .setI c [.d kd, .d vd] S fun c' _ => ∀ H', MOut K cx H a c' H' → Q H'
theorem ixN_back {n m : Nat} (h : n < m) : ixN m (Int.negSucc n) = some (m - (n + 1)) := by
  unfold ixN
  rw [if_neg (by omega), if_pos (by omega)]
  congr 1
  omega
theorem pset_ok (hu : X.A.units + 65 < cLine) (hw : cx.w = X.w) : PSet X (pset X.K cx) := by
  intro pins s σ H o i v ov iv u Q I ro ri rv w
  obtain ⟨S, c, a, kd, vd, hr, rfl, hc, rk, rw', w⟩ := w
  unfold mutC at w
  split at w <;> first | (rename_i h1 _; cases h1; done) | (rename_i h1; cases h1; done) | exact w.elim | skip
  · rename_i h2
    cases h2
    obtain ⟨p, ys, e, hp, r1⟩ := hc
    cases e
    cases rk
    refine set_list pins s σ H _ _ v ov iv u Q I ro ri rv ⟨a, ys, _, _, rfl, rfl, hp, ?_, w.2 _ (mout_l hp (r1.set _ rw'))⟩
    exact ixN_nat (by rw [← r1.length]; exact w.1)
  · rename_i h2
    cases h2
    obtain ⟨p, ys, e, hp, r1⟩ := hc
    cases e
    cases rk
    refine set_list pins s σ H _ _ v ov iv u Q I ro ri rv ⟨a, ys, _, _, rfl, rfl, hp, ?_, w.2 _ (mout_l hp (r1.set _ rw'))⟩
    rw [r1.length]
    exact ixN_back (by rw [← r1.length]; exact w.1)
  · rename_i h2
    cases h2
    obtain ⟨p, ks, e, hp, r1⟩ := hc
    cases e
    cases ro
    have ex := key_rel w.1 rk
    subst ex
    exact d_setItem (by omega) I (DPut.k hp (by rw [← r1.length]; exact w.2.1)) ri rv fun s' I' => ⟨_, I', w.2.2 _ (mout_k hp (r1.put w.1 rw'))⟩
  · rename_i h2
    cases h2
    obtain ⟨p, ks, e, hp, r1⟩ := hc
    cases e
    cases ro
    rw [hw] at hp
    refine dn_setItem (by omega) I hp r1 w.2.1 w.1 rk ri rw' rv fun xs' s' I' r' => ⟨_, I', w.2.2 _ ⟨_, rfl, ⟨a, xs', rfl, by rw [hw]; exact upd_same, r'⟩, fun o e => by rw [hp] at e; cases e; rfl⟩⟩
end
end DL
namespace L2.DX
open PySem PySem.Spec PyProof.Rows L2
noncomputable def pairAt (h : Heap) : Value → Int × Int
  | .ref b => match h.get? b with
    | some o => match o.data with
      | .seq a _ => match a.toList with
        | [.int x _, .int y _] => (x, y)
        | _ => (0, 0)
      | _ => (0, 0)
    | none => (0, 0)
  | _ => (0, 0)
noncomputable def entI (p : Int × Int) : Key × V := (Sum.inl p.1, V.int p.2)
theorem pairs_get {P : Program} {w : World} {K : Type} [DecidableEq K] {knd : KeyKind P w K} : ∀ {es : List DictEntry} {kvs : List (K × Value)}, Pairs knd es kvs → es.length = kvs.length ∧ ∀ (j : Nat) (k : K) (v : Value), kvs[j]? = some (k, v) → ∃ e, es[j]? = some e ∧ knd.is k e.key = true ∧ e.val = v := by
  intro es kvs h
  induction h with
  | nil => exact ⟨rfl, fun j k v e => by simp at e⟩
  | cons hk hv hr ih =>
    refine ⟨by simp [ih.1], fun j k v e => ?_⟩
    cases j with
    | zero => simp at e; subst e; exact ⟨_, rfl, hk, hv⟩
    | succ j =>
      obtain ⟨e', h1, h2, h3⟩ := ih.2 j k v (by simpa using e)
      exact ⟨e', by simpa using h1, h2, h3⟩
noncomputable def tSIt (td : TE) : TE := fun σ H Q => td σ H fun x H1 => ∃ (a : Addr) (ps : List (Int × Int)), x = .ref a ∧ H1 a = some (.dK (ps.map entI)) ∧ ps.length ≤ 1000 ∧
  ∀ (qs : List (Int × Int)) (ts : List Addr) (l : Addr) (H2 : Hp), qs.Perm ps → qs.Pairwise (fun p q => SrtO.lexB q p = false) → (∀ b o, H1 b = some o → H2 b = some o) → H1 l = none → H2 l = some (.lst (ts.map V.ref)) →
    Paired (fun (t : Addr) (q : Int × Int) => H2 t = some (.tup [.int q.1, .int q.2])) ts qs → Q (.ref l) H2
theorem pe_sItems {X : Cx} {e : Expr} {td : TE} {p apos cpos pos : Pos} (hc : X.calm = true) (hg : Gl X "sorted") (hm : X.mg "sorted" = none) (he : PE X e td)
    (hbase : attributeBase e "items" X.env (eval e X.env) = eval e X.env) (hline : (apos.endLine == cpos.line) = true)
    (na : starEach [(.Call (.Attribute e "items" apos) [] [] cpos : Expr)] X.env = (false, eval (.Call (.Attribute e "items" apos) [] [] cpos) X.env) :: starEach [] X.env := by rfl) :
    PE X (.Call (.Name "sorted" p) [.Call (.Attribute e "items" apos) [] [] cpos] [] pos) (tSIt td) := by
  refine ⟨fun pins s σ H Q I h => ?_⟩
  refine Call_ (ld_blt I hg hm PyProof.Rows.boot_sorted ?_)
  refine PyProof.Rows.callWith_builtin1 (PyProof.Rows.args_cons ?_ na) na rfl
  refine wpAny_Call_method (T := "dict") (id := "dict.items") hbase rfl hline F.plainAttrs_dict F.slot_dict_items F.type_dict_items (thn (he.run pins s σ H _ I h) fun u s1 ⟨x, H1, I1, rx, a, ps, ex, ha, h1000, q⟩ => ?_)
  subst ex
  obtain rfl : u = Value.ref a := rx
  obtain ⟨hz, hsm, vs, kv, o, es, ep, ho, hx, hdat, hko, hpr, hnd⟩ := I1.hok a _ ha
  obtain ⟨l1, hget⟩ := pairs_get hpr
  have l2 : (ps.map entI).length = vs.length := Paired.length kv
  rw [List.length_map] at l2
  have les : es.size = ps.length := by rw [← Array.length_toList, l1, ← l2]
  have hh : X.A.handled = none := I1.ok.hd hc
  have hdo : s1.heap.DictOf (mixKind X.prog X.w) a vs := ⟨o, es, ep, ho, hx, hdat, hko, hpr, hnd⟩
  refine ⟨hdo.typeIs, hdo.mapOf.noDict, ?_⟩
  have hvw : (s1.heap.push { cls := .type "dict_items", data := .fields #[.ref a] }).get? s1.heap.objs.size = some { cls := .type "dict_items", data := .fields #[.ref a] } := Heap.get?_push_size _ rfl
  have kv0 : ∀ b ob, s1.heap.get? b = some ob → (s1.heap.push { cls := .type "dict_items", data := .fields #[.ref a] }).get? b = some ob := fun b ob q => Heap.get?_push_of_some _ q
  show wpAny _ _ (callWith cpos (.builtin "dict.items") [.ref a] [] []) _ X.xe s1
  refine method_meetsIn F.slot_dict_items F.entry_dict_items rfl (PySem.evalArgs_none ⟨rfl, hdo.typeIs, F.args_dict_items_1 _, _, meets_dict_items (mixKind X.prog X.w) a hsm, ⟨vs, hdo⟩, ?_⟩)
  refine PyProof.Rows.args_nil ?_
  have I2 : Inv X pins σ H1 { s1 with heap := s1.heap.push { cls := .type "dict_items", data := .fields #[.ref a] } } := I1.kept (t' := s1.toks) kv0
  have hsz : (s1.heap.push { cls := .type "dict_items", data := .fields #[.ref a] }).objs.size = s1.heap.objs.size + 1 := Heap.size_push ..
  refine DT.sortedI (es := es) (ep := ep) (d := a) (r := s1.heap.objs.size) hh ⟨_, hvw, rfl, rfl⟩ ⟨o, kv0 _ _ ho, hx, hdat⟩ (by rw [les, sizeLine_eq]; omega) fun h' tk as hk hlt hl hG => ?_
  have lak : as.length = ps.length := by omega
  have nd : as.Nodup := List.Pairwise.imp (fun h => Nat.ne_of_lt h) hG.rise
  -- the pairs that were made
  have pr : ∀ (j : Nat) (b : Addr), as[j]? = some b → ∃ (p : Int × Int) (t1 t2 : Nat), ps[j]? = some p ∧ h'.get? b = some { cls := .type "tuple", data := .seq #[Value.int p.1 t1, Value.int p.2 t2] } := by
    intro j b hj
    obtain ⟨en, he, hg⟩ := hG.pairs j b hj
    have hjp : j < ps.length := by rw [← lak]; exact (List.getElem?_eq_some_iff.mp hj).1
    have e1 : (ps.map entI)[j]? = some (Sum.inl ps[j].1, V.int ps[j].2) := by rw [List.getElem?_map, List.getElem?_eq_getElem hjp]; rfl
    obtain ⟨u, hu, ru⟩ := kv_get kv e1
    obtain ⟨en', h1, h2, h3⟩ := hget j _ _ hu
    rw [← Array.getElem?_toList] at he
    rw [he] at h1
    cases h1
    obtain ⟨t2, rfl⟩ := ru
    rcases keyIs_shape (show keyIs (Sum.inl ps[j].1) en.key = true from h2) with ⟨i, t1, e2, e3⟩ | ⟨x, t1, e2, e3⟩
    · cases e2
      exact ⟨ps[j], t1, t2, List.getElem?_eq_getElem hjp, by rw [hg, e3, h3]⟩
    · cases e2
  -- the heap of the sort
  have hob : (h'.push { cls := .type "list", data := .seq (as.map Value.ref).toArray }).get? h'.objs.size = some (seqObj "list" (as.map Value.ref).toArray 0) := Heap.get?_push_size _ rfl
  have kb : ∀ b o, s1.heap.get? b = some o → (h'.push { cls := .type "list", data := .seq (as.map Value.ref).toArray }).get? b = some o := fun b o e => Heap.get?_push_of_some _ (hk b o (kv0 b o e))
  have ne0 : ∀ b o, h'.get? b = some o → b ≠ h'.objs.size := fun b o e => Nat.ne_of_lt (Heap.lt_size e)
  have hlt1 : s1.heap.objs.size < h'.objs.size := by
    have : s1.heap.objs.size + 1 < h'.objs.size := by rw [← hsz]; exact hlt
    omega
  generalize hh2 : h'.push { cls := .type "list", data := .seq (as.map Value.ref).toArray } = h2 at hob kb ⊢
  have ka : ∀ b o, h'.get? b = some o → h2.get? b = some o := fun b o e => by rw [← hh2]; exact Heap.get?_push_of_some _ e
  have pat : ∀ (j : Nat) (b : Addr) (p : Int × Int), as[j]? = some b → ps[j]? = some p → pairAt h2 (.ref b) = p ∧ Srt.IsPair h2 (.ref b) p.1 p.2 := by
    intro j b p hj hp
    obtain ⟨p', t1, t2, hp', hg⟩ := pr j b hj
    rw [hp] at hp'
    cases hp'
    have hg2 := ka _ _ hg
    refine ⟨?_, ⟨b, _, t1, t2, _, rfl, hg2, rfl, rfl⟩⟩
    show (match h2.get? b with | some o => (match o.data with | .seq a _ => (match a.toList with | [.int x _, .int y _] => (x, y) | _ => (0, 0)) | _ => (0, 0)) | none => (0, 0)) = p
    rw [hg2]
  have at_ : ∀ v ∈ as.map Value.ref, ∃ (j : Nat) (b : Addr) (p : Int × Int), v = .ref b ∧ as[j]? = some b ∧ ps[j]? = some p := by
    intro v hv'
    obtain ⟨b, hb, rfl⟩ := List.mem_map.mp hv'
    obtain ⟨j, hj⟩ := List.mem_iff_getElem?.mp hb
    obtain ⟨p, _, _, hp, _⟩ := pr j b hj
    exact ⟨j, b, p, rfl, hj, hp⟩
  have hps : ∀ v ∈ as.map Value.ref, Srt.IsPair h2 v (pairAt h2 v).1 (pairAt h2 v).2 := by
    intro v hv'
    obtain ⟨j, b, p, rfl, hj, hp⟩ := at_ v hv'
    obtain ⟨e1, e2⟩ := pat j b p hj hp
    rw [e1]; exact e2
  refine wpAny_call_entry PyProof.Rows.slot_list_sort ⟨_, hob, rfl⟩ PyProof.Rows.entry_list_sort
    (SrtO.list_sort_ord (s := { s1 with heap := h2, toks := tk }) (SrtO.swo_lex (pairAt h2)) hob (by rw [List.length_map, lak, sizeLine_eq]; omega) (fun h2' => SrtO.pairs_sortableO (by rw [List.length_map] at h2'; simp; omega) hps fun o e => ?_) fun out o1 o2 => ⟨.none, rfl, ?_⟩) (PyProof.Rows.args_list_sort _)
  · have e' : some o = some (seqObj "list" (as.map Value.ref).toArray 0) := e.symm.trans hob
    cases e'
    intro c
    exact absurd (Value.type.inj c) (by decide)
  show EP X pins σ Q (.ref h'.objs.size) { s1 with heap := sortedHeap h2 h'.objs.size (as.map Value.ref) out.toArray, toks := tk }
  obtain ⟨zs, pz, ez⟩ := perm_lift (fun z : Addr × Int × Int => Value.ref z.1) o2.perm (as.zip ps) (by
    rw [show (fun z : Addr × Int × Int => Value.ref z.1) = Value.ref ∘ Prod.fst from rfl, ← List.map_map, List.map_fst_zip (by omega)])
  have idx : ∀ z ∈ zs, ∃ j : Nat, as[j]? = some z.1 ∧ ps[j]? = some z.2 := by
    intro z' hz'
    obtain ⟨j, hj⟩ := List.mem_iff_getElem?.mp (pz.mem_iff.mp hz')
    exact ⟨j, List.getElem?_zip_eq_some.mp hj⟩
  have hperm : (zs.map (·.2)).Perm ps := by
    have e := pz.map (·.2)
    have m2 : (as.zip ps).map (·.2) = ps := List.map_snd_zip (by omega)
    rw [m2] at e
    exact e
  have hsort : (zs.map (·.2)).Pairwise (fun p q => SrtO.lexB q p = false) := by
    have o1' : (zs.map fun z => Value.ref z.1).Pairwise (fun x y => SrtO.lexB (pairAt h2 y) (pairAt h2 x) = false) := by rw [ez]; exact o1
    rw [List.pairwise_map] at o1' ⊢
    refine List.Pairwise.imp_of_mem (fun {x y} hx hy h => ?_) o1'
    obtain ⟨j, j1, j2⟩ := idx x hx
    obtain ⟨i, i1, i2⟩ := idx y hy
    have h' : SrtO.lexB (pairAt h2 (.ref y.1)) (pairAt h2 (.ref x.1)) = false := h
    rw [(pat j _ _ j1 j2).1, (pat i _ _ i1 i2).1] at h'
    exact h'
  -- behind the sort
  have kF : ∀ b o, b ≠ h'.objs.size → h2.get? b = some o → (sortedHeap h2 h'.objs.size (as.map Value.ref) out.toArray).get? b = some o := fun b o hb e => (PyProof.Rows.sortedHeap_old hb (Heap.lt_size e)).trans e
  have kS : ∀ b o, s1.heap.get? b = some o → (sortedHeap h2 h'.objs.size (as.map Value.ref) out.toArray).get? b = some o := fun b o e => kF b o (ne0 _ _ (hk b o (kv0 b o e))) (kb b o e)
  obtain ⟨eF, heF⟩ := PyProof.Rows.sortedHeap_at (vs := as.map Value.ref) (out := out.toArray) hob
  have I3 : Inv X pins σ H1 { s1 with heap := sortedHeap h2 h'.objs.size (as.map Value.ref) out.toArray, toks := tk } := I1.kept (t' := tk) kS
  have hn0 : H1 h'.objs.size = none := I1.hok.fresh (Nat.le_of_lt hlt1)
  have hlen : (zs.map fun z => V.ref z.1).length ≤ sizeLine := by
    have e := hperm.length_eq
    rw [List.length_map] at e
    rw [List.length_map, sizeLine_eq]
    omega
  have rv : Vals (zs.map fun z => V.ref z.1) out := by
    rw [← ez]
    exact vals_maps (fun z : Addr × Int × Int => V.ref z.1) (fun z => Value.ref z.1) zs fun _ _ => rfl
  have I4 : Inv X pins σ (upd H1 h'.objs.size (.lst (zs.map fun z => V.ref z.1))) { s1 with heap := sortedHeap h2 h'.objs.size (as.map Value.ref) out.toArray, toks := tk } :=
    I3.take (h' := sortedHeap h2 h'.objs.size (as.map Value.ref) out.toArray) (t' := tk) (fun b ob _ e => e) (I1.fpOk (Nat.le_of_lt hlt1) hn0) ⟨hlen, out, eF, rv, heF⟩
  obtain ⟨H2, I5, g, qt⟩ := takeT (P := fun b vs => ∃ (j : Nat) (p : Int × Int), as[j]? = some b ∧ ps[j]? = some p ∧ vs = [.int p.1, .int p.2]) I1 as _ I4 nd fun b hb => by
    obtain ⟨j, hj⟩ := List.mem_iff_getElem?.mp hb
    obtain ⟨p, t1, t2, hp, hg⟩ := pr j b hj
    have hbl : s1.heap.objs.size ≤ b := by
      have h9 : s1.heap.objs.size + 1 < b := by rw [← hsz]; exact hG.above b hb
      omega
    refine ⟨hbl, ?_, [.int p.1, .int p.2], ⟨j, p, hj, hp, rfl⟩, fun H3 => ⟨(by rw [sizeLine_eq]; show 2 ≤ 16777216; omega), [Value.int p.1 t1, Value.int p.2 t2], .cons ⟨t1, rfl⟩ (.cons ⟨t2, rfl⟩ .nil), ⟨_, kF _ _ (ne0 _ _ hg) (ka _ _ hg), rfl, 0, rfl⟩⟩⟩
    rw [upd_ne (ne0 _ _ hg)]
    exact I1.hok.fresh hbl
  have gr : ∀ b o, H1 b = some o → H2 b = some o := fun b o e => g b o (by rw [upd_ne (ne_of_none e hn0)]; exact e)
  have el : (zs.map fun z => V.ref z.1) = (zs.map (·.1)).map V.ref := by rw [List.map_map]; rfl
  refine ⟨.ref h'.objs.size, H2, I5, rfl, q (zs.map (·.2)) (zs.map (·.1)) h'.objs.size H2 hperm hsort gr hn0 (by rw [← el]; exact g _ _ upd_same) ?_⟩
  have key : ∀ l : List (Addr × Int × Int), (∀ z ∈ l, z ∈ zs) → Paired (fun (t : Addr) (q : Int × Int) => H2 t = some (.tup [.int q.1, .int q.2])) (l.map (·.1)) (l.map (·.2)) := by
    intro l
    induction l with
    | nil => intro _; exact .nil
    | cons z l ih =>
      intro hm
      refine .cons ?_ (ih fun y hy => hm y (List.mem_cons_of_mem _ hy))
      obtain ⟨i, i1, i2⟩ := idx z (hm z List.mem_cons_self)
      obtain ⟨vs, ⟨j, p, j1, j2, ev⟩, hH⟩ := qt z.1 (List.mem_of_getElem? i1)
      have eij : i = j := (List.getElem?_inj (List.getElem?_eq_some_iff.mp i1).1 nd).mp (i1.trans j1.symm)
      subst eij
      have ee : p = z.2 := Option.some.inj (j2.symm.trans i2)
      rw [ev, ee] at hH
      exact hH
  exact key zs fun z h => h
end L2.DX
namespace DL
open PySem L2 PySem.Spec PyProof.Rows
section
variable {X : Cx} {cx : Cls2}
theorem lex_lt {p q : Int × Int} (h : SrtO.lexB p q = false) : ¬ ltP2 p q := SrtO.lexB_no.mp h
theorem reps_pairs {K : Frag} {H : Hp} : ∀ {ps : List (Int × Int)} {vs : List V}, RepL K H (ps.map pairD) vs → Paired (fun (p : Int × Int) (v : V) => ∃ t, v = .ref t ∧ SqT K H t [.int p.1, .int p.2]) ps vs
  | [], _, e => by cases e; exact .nil
  | p :: ps, _, ⟨v, vr, e, r, rr⟩ => by
    subst e
    obtain ⟨t, us, rfl, h, ru⟩ := r
    obtain ⟨u1, r1, rfl, h1, h2⟩ := ru
    obtain ⟨u2, r2, rfl, h3, h4⟩ := h2
    cases h1; cases h3; cases h4
    exact .cons ⟨t, rfl, h⟩ (reps_pairs rr)
theorem call1_sortedP : CallR X (.builtin "sorted") (c1of X.K cx .sortedP) := by
  intro pins s σ H xs us Q I r w
  obtain ⟨v, rfl, S, a, hr, ra, w⟩ := w
  obtain ⟨c, w, hc⟩ := view_of hr ra w
  obtain ⟨ps, rfl, k⟩ := w
  obtain ⟨p, vs, rfl, hp, r1⟩ := hc
  have pr := reps_pairs r1
  obtain ⟨its, rv, hl, hz⟩ := I.list (SqL.of hp)
  obtain ⟨u, rfl, ru⟩ := vals1 r
  obtain rfl : u = Value.ref p := ru
  have isref : ∀ x ∈ vs, ∃ t, x = V.ref t := by
    intro x hx
    obtain ⟨j, hj⟩ := List.mem_iff_getElem?.mp hx
    have : ∀ {ps : List (Int × Int)} {vs : List V}, Paired (fun (p : Int × Int) (v : V) => ∃ t, v = .ref t ∧ SqT X.K H t [.int p.1, .int p.2]) ps vs → ∀ x ∈ vs, ∃ t, x = V.ref t := by
      intro ps vs h
      induction h with
      | nil => intro x hx; cases hx
      | cons h _ ih =>
        intro x hx
        rcases List.mem_cons.mp hx with rfl | hx
        · obtain ⟨t, e, _⟩ := h; exact ⟨t, e⟩
        · exact ih x hx
    exact this pr x hx
  obtain ⟨e1, e2⟩ := refs_back rv isref
  -- each value of the list
  have at_ : ∀ {ps : List (Int × Int)} {us : List Value}, Paired (fun (p : Int × Int) (v : V) => ∃ t, v = .ref t ∧ SqT X.K H t [.int p.1, .int p.2]) ps (us.map backV) → (∀ u ∈ us, ∃ t, u = Value.ref t) →
      ps = us.map (L2.DX.pairAt s.heap) ∧ ∀ u ∈ us, Srt.IsPair s.heap u (L2.DX.pairAt s.heap u).1 (L2.DX.pairAt s.heap u).2 ∧ RepV X.K H (pairD (L2.DX.pairAt s.heap u)) (backV u) := by
    intro ps us
    induction us generalizing ps with
    | nil => intro h _; cases h; exact ⟨rfl, fun u hu => by cases hu⟩
    | cons u us ih =>
      intro h hu
      cases h with
      | cons h t =>
        rename_i p ps
        obtain ⟨i1, i2⟩ := ih t fun u hu' => hu u (List.mem_cons_of_mem _ hu')
        obtain ⟨b, rfl⟩ := hu u List.mem_cons_self
        obtain ⟨b', eb, hq⟩ := h
        cases eb
        obtain ⟨its2, rv2, ⟨o, ho, hcl, n, hd⟩, _⟩ := I.tuple hq
        obtain ⟨u1, u2, rfl, ri, rj⟩ := vals2 rv2
        obtain ⟨t1, rfl⟩ := ri
        obtain ⟨t2, rfl⟩ := rj
        have ep : L2.DX.pairAt s.heap (.ref b) = p := by
          show (match s.heap.get? b with | some o => (match o.data with | .seq a _ => (match a.toList with | [.int x _, .int y _] => (x, y) | _ => (0, 0)) | _ => (0, 0)) | none => (0, 0)) = p
          rw [ho]
          show (match o.data with | .seq a _ => (match a.toList with | [.int x _, .int y _] => (x, y) | _ => (0, 0)) | _ => (0, 0)) = p
          rw [hd]
        have one : Srt.IsPair s.heap (.ref b) (L2.DX.pairAt s.heap (.ref b)).1 (L2.DX.pairAt s.heap (.ref b)).2 ∧ RepV X.K H (pairD (L2.DX.pairAt s.heap (.ref b))) (backV (.ref b)) := by
          rw [ep]
          exact ⟨⟨b, o, t1, t2, n, rfl, ho, hcl, hd⟩, b, [.int p.1, .int p.2], rfl, hq, .cons rfl (.cons rfl .nil)⟩
        refine ⟨by rw [List.map_cons, ep, i1], fun u hu' => ?_⟩
        rcases List.mem_cons.mp hu' with rfl | hu'
        · exact one
        · exact i2 u hu'
  rw [e1] at pr
  obtain ⟨ep, each⟩ := at_ pr e2
  refine SrtO.sorted_pairsO (k := L2.DX.pairAt s.heap) hl.isList (by rw [← rv.length]; exact hz) (fun v hv => (each v hv).1) fun h' d out h1 h2 kp hd hn => ?_
  have h3 : ∀ u ∈ out, ∃ a, u = Value.ref a := fun u hu => e2 u (h2.perm.mem_iff.mp hu)
  obtain ⟨n, hn⟩ := hn
  have hln : (out.map backV).length ≤ sizeLine := by
    rw [List.length_map, h2.perm.length_eq, ← rv.length]
    exact hz
  refine ⟨.ref d, upd H d (.lst (out.map backV)), I.laid (t' := s.toks) kp hd ⟨hln, out, n, vals_back h3, hn⟩, rfl, ?_⟩
  refine fin_vl (k (out.map (L2.DX.pairAt s.heap)) ?_ ?_) hr ?_ d (I.hok.fresh hd)
  · rw [ep]; exact h2.perm.map _
  · show List.Pairwise _ _
    rw [List.pairwise_map]
    exact h1.imp fun h => lex_lt h
  · have key : ∀ l : List Value, (∀ u ∈ l, u ∈ out) → RepL X.K H ((l.map (L2.DX.pairAt s.heap)).map pairD) (l.map backV) := by
      intro l
      induction l with
      | nil => intro _; exact .nil
      | cons u l ih => exact fun hm => .cons (each u (h2.perm.mem_iff.mp (hm u List.mem_cons_self))).2 (ih fun x hx => hm x (List.mem_cons_of_mem _ hx))
    exact key out fun u hu => hu
theorem call1_sum (hcalm : X.calm = true) : CallR X (.builtin "sum") (c1of X.K cx .sum) := by
  intro pins s σ H xs us Q I r w
  obtain ⟨v, rfl, S, a, hr, ra, w⟩ := w
  obtain ⟨c, w, hc⟩ := view_of hr ra w
  obtain ⟨ns, rfl, k⟩ := w
  obtain ⟨p, vs, rfl, hp, r1⟩ := hc
  have e := r1.ints
  subst e
  exact cr_sum hcalm pins s σ H _ us Q I r ⟨p, ns, rfl, SqL.of hp, fin_int k hr⟩
theorem call1_max (hcalm : X.calm = true) : CallR X (.builtin "max") (c1of X.K cx .maxl) := by
  intro pins s σ H xs us Q I r w
  obtain ⟨v, rfl, S, a, hr, ra, w⟩ := w
  obtain ⟨c, w, hc⟩ := view_of hr ra w
  obtain ⟨ns, rfl, h0, k⟩ := w
  obtain ⟨p, vs, rfl, hp, r1⟩ := hc
  have e := r1.ints
  subst e
  exact cr_max hcalm pins s σ H _ us Q I r ⟨p, ns, rfl, SqL.of hp, h0, fun m h1 h2 => fin_int (k m h1 h2) hr⟩
theorem call1_min (hcalm : X.calm = true) : CallR X (.builtin "min") (c1of X.K cx .minl) := by
  intro pins s σ H xs us Q I r w
  obtain ⟨v, rfl, S, a, hr, ra, w⟩ := w
  obtain ⟨c, w, hc⟩ := view_of hr ra w
  obtain ⟨ns, rfl, h0, k⟩ := w
  obtain ⟨p, vs, rfl, hp, r1⟩ := hc
  have e := r1.ints
  subst e
  exact cr_min hcalm pins s σ H _ us Q I r ⟨p, ns, rfl, SqL.of hp, h0, fun m h1 h2 => fin_int (k m h1 h2) hr⟩
end
section
variable {X : Cx}
noncomputable def tSet2 (K : Frag) (k : Bool) (ta : TE) : TE := fun σ H Q => ta σ H fun x H1 => ∃ (l : Addr) (ns : List Int), x = V.ref l ∧ SqT K H1 l (ns.map V.int) ∧ ns.length < 64 ∧
  ∀ ms : List Int, ms.Nodup → (k = true → ms.Pairwise (· < ·)) → (∀ j, j ∈ ms ↔ j ∈ ns) → (k = true → ∀ p, H1 p = none → Q (.ref p) (upd H1 p (.lst (ms.map V.int)))) ∧ (k = false → Q (.int ms.length) H1)
theorem vals_ints : ∀ {l : List Value} {ns : List Int}, IntsAre l ns → Vals (ns.map V.int) l
  | _, _, .nil => .nil
  | _, _, .cons n t h => .cons ⟨t, rfl⟩ (vals_ints h)
theorem pe_sortedSet {a : Expr} {ta : TE} {p p2 q pos : Pos} (hc : X.calm = true) (hg : Gl X "sorted") (hm : X.mg "sorted" = none) (hg2 : Gl X "set") (hm2 : X.mg "set" = none) (ha : PE X a ta)
    (na : starEach [a] X.env = (false, eval a X.env) :: starEach [] X.env) : PE X (.Call (.Name "sorted" p) [.Call (.Name "set" p2) [a] [] q] [] pos) (tSet2 X.K true ta) := by
  refine ⟨fun pins s σ H Q I h => ?_⟩
  refine Call_ (ld_blt I hg hm PyProof.Rows.boot_sorted ?_)
  refine PyProof.Rows.callWith_builtin1 (PyProof.Rows.args_cons ?_ rfl) rfl rfl
  refine Call_ (ld_blt I hg2 hm2 PyProof.Rows.boot_set ?_)
  refine PyProof.Rows.callWith_type1 (PyProof.Rows.args_cons (thn (ha.run pins s σ H _ I h) fun v s1 ⟨x, H1, I1, r1, q1⟩ => PyProof.Rows.args_nil ?_) na) na rfl
  obtain ⟨l, ns, rfl, hq, h1, q1⟩ := q1
  cases r1
  obtain ⟨its, r, pl, hz⟩ := I1.tuple hq
  have hi : IntsAre its.toArray.toList ns := by simpa using r.ints
  refine call_set_tupI ns (I1.ok.hd hc) (show s1.heap.IsTuple l its.toArray from pl) hi (by unfold scanBound; omega) fun h' tk c hS hcn hk => ?_
  refine PyProof.Rows.args_nil ?_
  have I2 : Inv X pins σ H1 { s1 with heap := h', toks := tk } := I1.kept hk
  refine sorted_set (s := { s1 with heap := h', toks := tk }) hS (I1.ok.hd hc) (by omega) fun s' p out c2 ms k g o hp hg hout pw hmem hlen => ?_
  have hn : H1 p = none := I2.hok.fresh hp
  have hv : Vals (ms.map V.int) out.toList := vals_ints hout
  have hml : (ms.map V.int).length ≤ sizeLine := by rw [List.length_map, hlen, sizeLine_eq]; omega
  have J : Inv X pins σ (upd H1 p (.lst (ms.map V.int))) { s1 with heap := s'.heap, gens := s'.gens, drawn := s'.drawn, toks := s'.toks } :=
    Inv.call (s := { s1 with heap := h', toks := tk }) I2 (ch := []) (Un.laid k hp hn) (I2.hok.laid k hp ⟨hml, out.toList, c2, hv, hg⟩) (by rw [g]; exact I2.bare) (fun _ z => nomatch z)
  have e : s' = { s1 with heap := s'.heap, gens := s'.gens, drawn := s'.drawn, toks := s'.toks } := by
    cases s'
    cases s1
    cases o
    rfl
  rw [e]
  exact ⟨.ref p, _, J, rfl, (q1 ms (pw.imp fun h => Int.ne_of_lt h) (fun _ => pw) fun j => by rw [hmem j, decide_eq_true_eq]).1 rfl p hn⟩
theorem pe_lenSetT {a : Expr} {ta : TE} {p p2 q pos : Pos} (hc : X.calm = true) (hg : Gl X "len") (hm : X.mg "len" = none) (hg2 : Gl X "set") (hm2 : X.mg "set" = none) (ha : PE X a ta)
    (na : starEach [a] X.env = (false, eval a X.env) :: starEach [] X.env) : PE X (.Call (.Name "len" p) [.Call (.Name "set" p2) [a] [] q] [] pos) (tSet2 X.K false ta) := by
  refine ⟨fun pins s σ H Q I h => ?_⟩
  refine Call_ (ld_blt I hg hm PySem.boot_len ?_)
  refine PyProof.Rows.callWith_builtin1 (PyProof.Rows.args_cons ?_ rfl) rfl rfl
  refine Call_ (ld_blt I hg2 hm2 PyProof.Rows.boot_set ?_)
  refine PyProof.Rows.callWith_type1 (PyProof.Rows.args_cons (thn (ha.run pins s σ H _ I h) fun v s1 ⟨x, H1, I1, r1, q1⟩ => PyProof.Rows.args_nil ?_) na) na rfl
  obtain ⟨l, ns, rfl, hq, h1, q1⟩ := q1
  cases r1
  obtain ⟨its, r, pl, hz⟩ := I1.tuple hq
  have hi : IntsAre its.toArray.toList ns := by simpa using r.ints
  refine call_set_tupI ns (I1.ok.hd hc) (show s1.heap.IsTuple l its.toArray from pl) hi (by unfold scanBound; omega) fun h' tk c hS hcn hk => ?_
  refine PyProof.Rows.args_nil ?_
  have I2 : Inv X pins σ H1 { s1 with heap := h', toks := tk } := I1.kept hk
  obtain ⟨o, es, ep, t, ho, hex, hd, hgd, nd, hm2, hb, hf, hn, hr, hl⟩ := hS
  have hz2 : es.size = c := by rw [← hn]
  refine call_len_set ho hex hd hf (by omega) ⟨.int es.size, H1, I2.tok _, ⟨_, rfl⟩, ?_⟩
  have z := (q1 (es.toList.map keyOf) nd (fun e => by cases e) fun j => by rw [← hm2 j, decide_eq_true_eq]).2 rfl
  rw [List.length_map, Array.length_toList] at z
  exact z
end
theorem met_nd (f : Nat → Int) : ∀ i, (firstMet f i).Nodup
  | 0 => List.nodup_nil
  | i + 1 => by
    rw [firstMet_succ]
    unfold step_dedup
    split
    · exact met_nd f i
    · rename_i h
      refine List.nodup_append.mpr ⟨met_nd f i, List.nodup_cons.mpr ⟨List.not_mem_nil, List.nodup_nil⟩, fun x hx y hy e => h ?_⟩
      rw [List.any_eq_true]
      exact ⟨x, hx, by rw [e, List.mem_singleton.mp hy]; exact beq_self_eq_true _⟩
theorem met_mem (ns : List Int) (j : Int) : j ∈ firstMet (fun i => ns.getD i 0) ns.length ↔ j ∈ ns := by
  have h := firstMet_any (fun i => ns.getD i 0) ns.length j
  have e : (List.range ns.length).map (fun i => ns.getD i 0) = ns := by
    refine List.ext_getElem (by simp) fun i h1 h2 => ?_
    simp [List.getD_eq_getElem?_getD, List.getElem?_eq_getElem h2]
  rw [e] at h
  have a1 : ∀ l : List Int, l.any (· == j) = true ↔ j ∈ l := fun l => by
    rw [List.any_eq_true]
    exact ⟨fun ⟨x, hx, e⟩ => by rw [← eq_of_beq e]; exact hx, fun hx => ⟨j, hx, beq_self_eq_true j⟩⟩
  rw [← a1, ← a1, h]
noncomputable def tSlen (K : Frag) (ta : TE) : TE := fun σ H Q => ta σ H fun x H1 => ∃ (l : Addr) (ns : List Int), x = V.ref l ∧ SqL K H1 l (ns.map V.int) ∧ ns.length ≤ 4000 ∧
  ∀ ms : List Int, ms.Nodup → (∀ j, j ∈ ms ↔ j ∈ ns) → Q (.int ms.length) H1
section
variable {X : Cx}
theorem pe_lenSetL {a : Expr} {ta : TE} {p p2 q pos : Pos} (hc : X.calm = true) (hg : Gl X "len") (hm : X.mg "len" = none) (hg2 : Gl X "set") (hm2 : X.mg "set" = none) (ha : PE X a ta)
    (na : starEach [a] X.env = (false, eval a X.env) :: starEach [] X.env) : PE X (.Call (.Name "len" p) [.Call (.Name "set" p2) [a] [] q] [] pos) (tSlen X.K ta) := by
  refine ⟨fun pins s σ H Q I h => ?_⟩
  refine Call_ (ld_blt I hg hm PySem.boot_len ?_)
  refine PyProof.Rows.callWith_builtin1 (PyProof.Rows.args_cons ?_ rfl) rfl rfl
  refine Call_ (ld_blt I hg2 hm2 PyProof.Rows.boot_set ?_)
  refine PyProof.Rows.callWith_type1 (PyProof.Rows.args_cons (thn (ha.run pins s σ H _ I h) fun v s1 ⟨x, H1, I1, r1, q1⟩ => PyProof.Rows.args_nil ?_) na) na rfl
  obtain ⟨l, ns, rfl, hq, h1, q1⟩ := q1
  cases r1
  obtain ⟨its, r, pl, hz⟩ := I1.list hq
  have hl : its.toArray.size = ns.length := by rw [List.size_toArray, ← r.length, List.length_map]
  refine call_set_list (I1.ok.hd hc) pl.isList (ns := ns) (by simpa using r.ints) (by unfold scanBound; omega) fun h' tk hS hk => ?_
  rw [hl] at hS
  refine PyProof.Rows.args_nil ?_
  obtain ⟨o, es, ep, t, ho, hex, hd, _, _, _, hf, hn⟩ := hS
  have hle := firstMet_length_le (fun i => ns.getD i 0) ns.length
  have I2 : Inv X pins σ H1 { s1 with heap := h', toks := tk } := I1.kept fun b o e => hk b o (Heap.lt_size e) e
  exact call_len_set ho hex hd hf (by rw [hn]; omega) ⟨.int (firstMet (fun i => ns.getD i 0) ns.length).length, H1, I2.tok _, ⟨_, by rw [hn]⟩, q1 _ (met_nd _ _) (met_mem ns)⟩
end
section
variable {prog : Program} {w : World} {A : Around} {E : Value → Shared → Prop} {s : Shared}
theorem bounds_all (n : Nat) : sliceBounds none none none n = (0, (n : Int), 1) := by
  simp only [sliceBounds, Option.getD_none]
  rfl
set_option maxRecDepth 100000 in
theorem setItem_sliceAll {l b sl : Addr} {items new : Array Value} {n n2 : Nat} {vl vu : Value} {Q : Unit → Shared → Prop}
    (e : s.heap.get? l = some { cls := .type "list", data := .seq items n }) (e2 : s.heap.get? b = some { cls := .type "list", data := .seq new n2 }) (hne : l ≠ b)
    (hs : s.heap.IsSliceOf sl vl vu .none) (pl : IsPart vl none) (pu : IsPart vu none)
    (hsz : items.size + new.size ≤ sizeLine) (h : Q () { s with heap := s.heap.update l (Obj.mapSeq fun xs => xs.extract 0 0 ++ new ++ xs.extract items.size xs.size) }) :
    wpAny (model prog w) A (setItem (.ref l) (.ref sl) (.ref b)) Q E s := by
  have hl : s.heap.IsList l items := PySem.IsL.isList e
  have hb : s.heap.IsList b new := PySem.IsL.isList e2
  obtain ⟨os, hos, hcs, hds⟩ := id hs
  have hTs : s.TypeIs (.ref sl) "slice" := ⟨os, hos, hcs⟩
  have hstep : ¬ ((rawPart none == rawInt 0) = true) := Bool.false_ne_true
  have hsame : Builtin.List.listSameRef (.ref l) (.ref b) = false := by
    unfold Builtin.List.listSameRef
    exact beq_eq_false_iff_ne.mpr hne
  have hmax : (max (0 : Int) ((items.size : Nat) : Int)).toNat = items.size := by omega
  have hz' : ((fun xs : Array Value => xs.extract 0 0 ++ new ++ xs.extract items.size xs.size) items).size ≤ sizeLine + 1 := by
    simp only [Array.size_append, Array.size_extract]
    omega
  unfold setItem
  try with_reducible refine wpAny_holding ?_
  first | refine wpAny_bind (wpAny_pure ?_) | skip
  refine wpAny_bind (wpAny_sequenceKey hl.typeIs (by decide) ?_)
  refine wpAny_bind (wpAny_callSpecial?_slot (name := Str.ofString "__setitem__") hl.typeIs slot_list_setitem
    (wpAny_call_entry slot_list_setitem hl.typeIs entry_list_setitem ?_ (args_list_setitem _ _ _)))
  show wpAny _ _ (Builtin.List.listSubscript? (.ref sl) >>= _) _ _ s
  refine wpAny_bind ?_
  unfold Builtin.List.listSubscript?
  refine wpAny_bind (wpAny_specialOf hTs slice_no_index ?_)
  simp only [Option.isNone_none, if_true]
  refine wpAny_pure ?_
  show wpAny _ _ (typeOf (.ref sl) >>= _) _ _ s
  refine wpAny_bind (wpAny_typeOf hTs ?_)
  first
    | rw [if_neg (by decide)]
    | refine PySem.W.KFB.if_not (by decide) ?_
  rw [listSliceParts_eq]
  refine wpAny_bind (wpAny_bind (wpAny_field hos hds (x := .none) rfl (wpAny_bind (wpAny_listPart .none ?_))))
  rw [if_neg hstep]
  refine wpAny_bind (wpAny_field hos hds (x := vl) rfl (wpAny_bind (wpAny_listPart pl ?_)))
  refine wpAny_bind (wpAny_field hos hds (x := vu) rfl (wpAny_bind (wpAny_listPart pu (wpAny_pure ?_))))
  first
    | simp only [hsame, Bool.false_eq_true, if_false]
    | refine PySem.W.KFB.if_not hsame ?_
    | (dsimp only
       rw [if_neg (by rw [hsame]; exact Bool.false_ne_true)])
  refine wpAny_bind (m := Builtin.List.listAllItems (.ref b) "must assign iterable to extended slice") ?_
  unfold Builtin.List.listAllItems
  refine wpAny_bind (wpAny_typeOf hb.typeIs ?_)
  first
    | refine PySem.W.KFB.if_so (by decide) ?_
    | rw [if_pos (by decide)]
    | simp only [beq_self_eq_true, Bool.true_or, if_true]
  unfold Builtin.List.listItems
  refine wpAny_bind (wpAny_seqItems e2 rfl (wpAny_pure ?_))
  refine wpAny_bind (wpAny_bind (wpAny_seqItems e rfl (wpAny_pure ?_)))
  refine wpAny_bind (wpAny_of_eq ((sliceIndices_raw none none none items.size (by simp)).trans (congrArg (pure : Int × Int × Int → Sem (Int × Int × Int)) (bounds_all items.size))) ?_)
  show wpAny _ _ (if ((1 : Int) == 1) = true then _ else _) _ _ s
  rw [if_pos (by decide)]
  refine wpAny_bind (wpAny_rule ?_)
  first
    | simp only [notLongL hsz, Bool.false_eq_true, if_false]
    | refine PySem.W.KFB.if_not (notLongL hsz) ?_
  first | refine wpAny_bind (wpAny_pure ?_) | skip
  show wpAny _ _ (updateSeq l (fun xs => xs.extract 0 ((0 : Int)).toNat ++ new ++ xs.extract (max (0 : Int) ((items.size : Nat) : Int)).toNat xs.size) >>= _) _ _ s
  rw [hmax]
  refine wpAny_bind (wpAny_updateSeq (hz := Nat.le_trans (Nat.le_add_right _ _) hsz) (_hz' := hz') e rfl ?_)
  refine wpAny_bind (wpAny_letGo ?_)
  first
    | exact wpAny_bind (wpAny_pure (wpAny_pure ⟨.none, rfl, wpAny_pure h⟩))
    | exact wpAny_pure ⟨.none, rfl, wpAny_pure h⟩
end
section
variable {X : Cx}
theorem set_sliceAll {pins : List (Addr × Obj)} {s : Shared} {σ : L2.St} {H : Hp} {l b sl : Addr} {xs ys : List V} {vl vu : Value} {Q : Unit → Shared → Prop} (I : Inv X pins σ H s)
    (hH : H l = some (.lst xs)) (hB : H b = some (.lst ys)) (hne : l ≠ b) (hs : s.heap.IsSliceOf sl vl vu .none) (pl : IsPart vl none) (pu : IsPart vu none)
    (hz : xs.length + ys.length ≤ sizeLine) (h : ∀ s', Inv X pins σ (upd H l (.lst ys)) s' → Q () s') :
    wpAny (model X.prog X.w) X.A (setItem (.ref l) (.ref sl) (.ref b)) Q X.xe s := by
  obtain ⟨z, its, n, r, hl, e⟩ := I.lstM hH
  obtain ⟨z2, its2, n2, r2, hl2, e2⟩ := I.lstM hB
  refine setItem_sliceAll e e2 hne hs pl pu (by rw [List.size_toArray, List.size_toArray]; omega) (h _ ?_)
  refine I.lset (its' := its2) (t' := s.toks) hH e ?_ r2 (by omega)
  apply Array.toList_inj.mp
  simp
noncomputable def gSlA (K : Frag) (to : TE) : TG := fun v σ H Q => to σ H fun o H1 => ∃ a b xs ys, o = .ref a ∧ v = .ref b ∧ H1 a = some (.lst xs) ∧ H1 b = some (.lst ys) ∧ a ≠ b ∧ xs.length + ys.length ≤ sizeLine ∧ Q σ (upd H1 a (.lst ys))
theorem pg_slA {o : Expr} {to : TE} {p pos : Pos} (ho : PE X o to) : PG X (.Subscript o (.Slice none none none p) pos) (gSlA X.K to) := by
  refine ⟨fun pins s σ H v u Q I r h => ?_⟩
  have ha : assign (.Subscript o (.Slice none none none p) pos) X.env u = (do
      let ov ← holding [u] (eval o X.env)
      let iv ← holding [u, ov] (eval (.Slice none none none p) X.env)
      standAt pos
      holding [u, ov, iv] (setItem ov iv u)
      release [iv, u, ov] []) := by rfl
  rw [ha]
  refine wpAny_bind (wpAny_holding (thn (ho.run pins s σ H _ I h) fun ov s1 ⟨x, H1, I1, r1, q1⟩ => ?_))
  obtain ⟨a, b, xs, ys, rfl, rfl, h1, h2, hne, hz, q⟩ := q1
  cases r1
  cases r
  refine wpAny_bind (wpAny_holding ?_)
  refine wpAny_Slice ?_
  rw [evalPart_none]
  refine wpAny_pure ?_
  refine wpAny_pure ?_
  refine wpAny_pure ?_
  have I4 : Inv X pins σ H1 { s1 with heap := s1.heap.push { cls := .type "slice", data := .fields #[.none, .none, .none] } } := I1.kept (t' := s1.toks) fun b ob q => Heap.get?_push_of_some _ q
  refine wpAny_bind (wpAny_standAt (wpAny_bind (wpAny_holding ?_)))
  refine set_sliceAll (sl := s1.heap.objs.size) I4 h1 h2 hne (Heap.IsSliceOf.new ..) .none .none hz fun s' I5 => ?_
  exact wpAny_release ⟨σ, _, I5, q⟩
end
section
variable {P : Program} {w : World} {A : Around} {E : Value → Shared → Prop} {s : Shared}
noncomputable def FewU (ks : List (Addr × List Int)) : Prop := ∀ L : List (Addr × List Int), (L.map (·.2)).Nodup → (∀ p ∈ L, p ∈ ks) → L.length < 63
theorem set_update_few {I : Addr} {fp wr : List Addr} {G : Array GenState → Array GenState → Prop} {n : Nat} {Pv : Nat → Value → Prop} {St : Nat → Shared → Prop} {R : Result → Shared → Prop}
    (W : WalksS P w A.in1 I fp wr G n Pv St) (S : Addr) (hSf : S ∉ fp) (ks : List (Addr × List Int)) (hn : n = ks.length) (hfew : FewU ks) (hval : ∀ i v, Pv i v → ∃ p, ks[i]? = some p ∧ v = .ref p.1)
    (h0 : Heap) (hk : ∀ p ∈ ks, IsT P w h0 p.2 p.1) (hS0 : h0.get? S = none) (hw0 : ∀ b ∈ wr, h0.get? b = none) (hu : A.in1.units < cLine) :
    ∀ (k i : Nat) (s : Shared), n - i = k → i ≤ n → St i s → (∀ b o, h0.get? b = some o → s.heap.get? b = some o) → (∃ L es ep t, SetTR P w s.heap S L es ep t ∧ Got ks i L) →
      (∀ s' L es ep t, Moved (S :: wr) G s s' → SetTR P w s'.heap S L es ep t → Got ks n L → (∀ b o, h0.get? b = some o → s'.heap.get? b = some o) → R (.ok (.ret .none)) s') →
      codeAny (model P w) A (.builtin "set.update.loop" ⟨[.ref S, .ref I], []⟩) R s := by
  have hSw : S ∉ wr := fun h => hSf (W.sub _ h)
  have hsub : ∀ b ∈ wr, b ∈ S :: wr := fun b hb => List.mem_cons_of_mem _ hb
  have keepM : ∀ {s s' : Shared}, Moved wr G s s' → (∀ b o, h0.get? b = some o → s.heap.get? b = some o) → ∀ b o, h0.get? b = some o → s'.heap.get? b = some o := fun hm hkp b o e =>
    hm.heap b o (fun hb => by rw [hw0 b hb] at e; cases e) (hkp b o e)
  intro k
  induction k with
  | zero =>
    intro i s hk' hi hst hkp ⟨L, es, ep, t, hS, g⟩ hR
    have hin : i = n := by omega
    subst hin
    refine codeAny_builtin F.entry_set_update_loop ?_
    rw [Around.under_plainId F.plain_set_update_loop _]
    show wpAny _ A.in1 (pyNext (.ref I) >>= _) _ _ s
    refine wpAny_bind (W.done s _ _ hst fun s' hm => ?_)
    show wpAny _ A.in1 (ret Value.none) _ _ s'
    have hkp' := keepM hm hkp
    have sub : ∀ p ∈ L, p ∈ ks := fun p hp => List.mem_of_mem_take (g.sub p hp)
    exact wpAny_pure (hR s' L es ep t (hm.mono hsub) (hS.keep (fun o e => hm.heap S o hSw e) fun p hp => isT_keep (hk p (sub p hp)) hkp') g hkp')
  | succ k ih =>
    intro i s hk' hi hst hkp ⟨L, es, ep, t, hS, g⟩ hR
    have hlt : i < n := by omega
    refine codeAny_builtin F.entry_set_update_loop ?_
    rw [Around.under_plainId F.plain_set_update_loop _]
    show wpAny _ A.in1 (pyNext (.ref I) >>= _) _ _ s
    refine wpAny_bind (W.item i s _ _ hlt hst fun v s' hP hst' hm => ?_)
    obtain ⟨p, hp, rfl⟩ := hval i v hP
    have hkp' := keepM hm hkp
    have sub : ∀ p ∈ L, p ∈ ks := fun p hp => List.mem_of_mem_take (g.sub p hp)
    have hS' : SetTR P w s'.heap S L es ep t := hS.keep (fun o e => hm.heap S o hSw e) fun q hq => isT_keep (hk q (sub q hq)) hkp'
    have hx : IsT P w s'.heap p.2 p.1 := isT_keep (hk p (List.mem_of_getElem? hp)) hkp'
    have hlt63 := hfew L hS.nd sub
    show wpAny _ A.in1 (holding [Value.ref p.1] (setAdd S (.ref p.1)) >>= _) _ _ s'
    refine wpAny_bind (wpAny_holding ?_)
    unfold setAdd
    refine wpAny_holding ?_
    refine wpAny_bind (wpAny_pyHash_tuple hu hx ?_)
    refine add_at (s := { s' with toks := s'.toks + (p.2.length + 1) }) hS' hx hu (by omega) fun b h' L' es' ep' t' hsb hS2 c1 c2 => ?_
    have g' : Got ks (i + 1) L' := by
      rcases Classical.em (p.2 ∈ L.map (·.2)) with c | c
      · rw [c1 c]; exact g.same hp c
      · exact g.more hp (c2 c)
    have hkp2 : ∀ b o, h0.get? b = some o → h'.get? b = some o := fun b o e => (hsb.2 b (fun z => by rw [z, hS0] at e; cases e)).trans (hkp' b o e)
    refine wpAny_pure ⟨plainId_quiet F.plain_set_update_loop _, ih (i + 1) _ (by omega) hlt (W.frame _ s' _ _ hst' (Nat.le_add_right _ _) fun b hb o e => ?_) hkp2 ⟨L', es', ep', t', hS2, g'⟩ fun s'' L2 es2 ep2 t2 hm'' hS'' g'' hkp'' => ?_⟩
    · rw [hsb.2 b (fun h : b = S => hSf (by rw [← h]; exact hb))]; exact e
    · refine hR s'' L2 es2 ep2 t2 (Moved.trans W.gtrans ((hm.mono hsub).then_heap (Nat.le_add_right _ _) fun b o hb e => ?_) hm'') hS'' g'' hkp''
      rw [hsb.2 b (fun h : b = S => hb (by rw [h]; exact List.mem_cons_self))]; exact e
theorem call_set_few {l : Addr} {items : Array Value} (ks : List (Addr × List Int)) {Q : Value → Shared → Prop} (hh : A.handled = none) (hl : s.heap.IsList l items) (hit : items.toList = ks.map fun p => Value.ref p.1)
    (hk : ∀ p ∈ ks, IsT P w s.heap p.2 p.1) (hfew : FewU ks) (hu : A.units + 3 < cLine)
    (h : ∀ (h' : Heap) (tk : Nat) L es ep t, SetTR P w h' s.heap.objs.size L es ep t → Got ks ks.length L → (∀ b o, s.heap.get? b = some o → h'.get? b = some o) → Q (.ref s.heap.objs.size) { s with heap := h', toks := tk }) :
    wpAny (model P w) A (call (.type "set") [.ref l]) Q E s := by
  have hisz : items.size = ks.length := by
    have q := congrArg List.length hit
    rw [Array.length_toList, List.length_map] at q
    exact q
  obtain ⟨c, tl, hmro⟩ := F.called_set.mro
  have hmade := F.called_set.made
  have hsub := F.called_set.sub
  refine wpAny_call (codeAny_of_tree ?_)
  show wpAny _ _ (callAny (.type "set") _) _ _ _
  refine wpAny_pure ⟨Code.quiet_builtin _ (by decide +kernel), codeAny_builtin F.entry_type_call ?_⟩
  rw [Around.under_plain (weight_type_call_type "set" [.ref l] []) rfl]
  have h1 := F.called_set.notType
  have h2 := F.called_set.canCreate
  have hct := F.typeCall_set_1 (.ref l)
  repeat (any_goals (first | assumption | wp_step))
  refine codeAny_mono (code_set_led1 (.ref l) (E := E) (Q₁ := fun obj s₁ => obj = .ref s.heap.objs.size ∧ s₁ = { s with heap := s.heap.push { cls := .type "set", dict := none, data := .set #[] 0 (.fresh 0 0 (!w.params.followText "set-order")) } }) ⟨rfl, rfl⟩) fun r s₁ hr => ?_
  cases r with
  | error e => exact hr
  | ok fl =>
    cases fl with
    | ret obj =>
      obtain ⟨rfl, rfl⟩ := hr
      have hS : (s.heap.push { cls := .type "set", dict := none, data := .set #[] 0 (.fresh 0 0 (!w.params.followText "set-order")) }).get? s.heap.objs.size = some { cls := .type "set", dict := none, data := .set #[] 0 (.fresh 0 0 (!w.params.followText "set-order")) } := Heap.get?_push_size _ rfl
      have hT : Shared.TypeIs { s with heap := s.heap.push { cls := .type "set", dict := none, data := .set #[] 0 (.fresh 0 0 (!w.params.followText "set-order")) } } (.ref s.heap.objs.size) "set" := ⟨_, hS, rfl⟩
      have hli := F.called_set.init.lookup
      have hbi := F.called_set.init.bind (.ref s.heap.objs.size)
      repeat (any_goals (first | assumption | wp_step))
      refine codeAny_mono (codeAny_call_builtin (R := wants (fun r s₂ => r = .none ∧ ∃ h' tk L es ep t, s₂ = { s with heap := h', toks := tk } ∧ SetTR P w h' s.heap.objs.size L es ep t ∧ Got ks ks.length L ∧
          (∀ b o, s.heap.get? b = some o → h'.get? b = some o)) E) F.called_set.init.plain F.entry_set_init (check_set_init_1 hT ?_)) fun r₂ s₂ hr₂ => ?_
      · obtain ⟨ol, hol, hcl, nl, hdl⟩ := hl
        obtain ⟨ocls, odict, odata, oslots⟩ := ol
        simp only at hcl hdl
        subst hcl; subst hdl
        have hol' : (s.heap.push { cls := .type "set", dict := none, data := .set #[] 0 (.fresh 0 0 (!w.params.followText "set-order")) }).get? l = some { cls := .type "list", dict := odict, data := .seq items nl, slots := oslots } := Heap.get?_push_of_some _ hol
        have hsls := F.sub_list_set
        have hslf := F.sub_list_frozenset
        have hne : (Value.type "list" == Value.type "dict") = false := by decide
        have hl1 : (s.heap.push { cls := .type "set", dict := none, data := .set #[] 0 (.fresh 0 0 (!w.params.followText "set-order")) }).IsList l items := ⟨_, hol', rfl, nl, rfl⟩
        unfold Builtin.«set.__init__» noKeywords Builtin.Frozenset.updateFrom
        generalize hPI : pyIter = PI
        wp_walk
        subst hPI
        refine wpAny_pyIter_list hl1 ?_
        refine wpAny_bind (wpAny_runValue ?_)
        have hlS : l < s.heap.objs.size := Heap.lt_size hol
        have hh3 : A.in1.in1.in1.handled = none := by simp [hh]
        have hz1 : (s.heap.push { cls := .type "set", dict := none, data := .set #[] 0 (.fresh 0 0 (!w.params.followText "set-order")) }).objs.size = s.heap.objs.size + 1 := Heap.size_push ..
        have hneI : l ≠ (s.heap.push { cls := .type "set", dict := none, data := .set #[] 0 (.fresh 0 0 (!w.params.followText "set-order")) }).objs.size := by
          rw [Heap.size_push]; exact Nat.ne_of_lt (Nat.lt_succ_of_lt hlS)
        have hSf : s.heap.objs.size ∉ [(s.heap.push { cls := .type "set", dict := none, data := .set #[] 0 (.fresh 0 0 (!w.params.followText "set-order")) }).objs.size, l] := by
          rw [Heap.size_push]; simp only [List.mem_cons, List.mem_singleton, List.not_mem_nil, or_false, not_or]
          exact ⟨Nat.ne_of_lt (Nat.lt_succ_self _), Nat.ne_of_gt hlS⟩
        have hval : ∀ (i : Nat) (v : Value), items[i]? = some v → ∃ p, ks[i]? = some p ∧ v = .ref p.1 := fun i v hv => by
          have q : items.toList[i]? = some v := by rw [Array.getElem?_toList]; exact hv
          rw [hit, List.getElem?_map] at q
          cases hq : ks[i]? with
          | none => rw [hq] at q; cases q
          | some p =>
            rw [hq] at q
            exact ⟨p, rfl, (Option.some.inj q).symm⟩
        have none_of : ∀ b, s.heap.objs.size ≤ b → s.heap.get? b = none := fun b hb => by
          cases q : s.heap.get? b with
          | none => rfl
          | some o => exact absurd (Nat.lt_of_lt_of_le (Heap.lt_size q) hb) (Nat.lt_irrefl _)
        refine set_update_few ((Walks.list hh3 _ l hneI items).toS) s.heap.objs.size
          hSf ks hisz hfew hval s.heap hk (none_of _ (Nat.le_refl _)) (fun b hb => none_of b (by
            rw [List.mem_singleton.mp hb, Heap.size_push]
            exact Nat.le_succ _)) hu (items.size - 0) 0 _ (by omega) (Nat.zero_le _)
          ⟨⟨_, Heap.get?_push_size _ rfl, rfl, rfl⟩, (hl1.push _)⟩ (fun b o e => Heap.get?_push_of_some _ (Heap.get?_push_of_some _ e)) ?hS0 ?hR
        case hS0 =>
          have hget : ((s.heap.push { cls := .type "set", dict := none, data := .set #[] 0 (.fresh 0 0 (!w.params.followText "set-order")) }).push { cls := .type "list_iterator", data := .fields #[.ref l, .int 0 0] }).get? s.heap.objs.size
              = some { cls := .type "set", dict := none, data := .set #[] 0 (.fresh 0 0 (!w.params.followText "set-order")) } := Heap.get?_push_of_some _ hS
          exact ⟨[], #[], 0, _, setTR_fresh hget, Got.zero ks⟩
        case hR =>
          intro s' L es ep t hm hS' g' hkp
          obtain ⟨h', g2, d', tk', os'⟩ := s'
          have eg : g2 = s.gens := hm.gens
          have ed : d' = s.drawn := hm.drawn
          have eo : os' = s.os := hm.os
          subst eg; subst ed; subst eo
          show wpAny _ _ _ _ _ _
          refine wpAny_pure ?_
          show wpAny _ _ (ret Value.none) _ _ _
          rw [hisz] at g'
          exact wpAny_pure ⟨rfl, h', tk', L, es, ep, t, rfl, hS', g', hkp⟩
      · cases r₂ with
        | error e => exact hr₂
        | ok fl₂ =>
          cases fl₂ with
          | ret r =>
            obtain ⟨rfl, h', tk, L, es, ep, t, rfl, hS', g', hk'⟩ := hr₂
            repeat (any_goals (first | assumption | wp_step))
            exact h _ _ _ _ _ _ hS' g' hk'
          | _ => exact hr₂.elim
    | _ => exact hr.elim
end
section
variable {X : Cx}
noncomputable def tSetP (K : Frag) (ta : TE) : TE := fun σ H Q => ta σ H fun x H1 => ∃ (l : Addr) (ks : List (Addr × List Int)), x = V.ref l ∧ SqL K H1 l (ks.map fun p => V.ref p.1) ∧ (∀ p ∈ ks, SqT K H1 p.1 (p.2.map V.int)) ∧ FewU ks ∧ (∀ p ∈ ks, p.2.length = 2 ∧ TS.Bd 64 p.2) ∧
  ∀ (L' : List (Addr × List Int)) (p : Addr), (∀ q ∈ L', q ∈ ks) → (∀ q ∈ ks, q.2 ∈ L'.map (·.2)) → (L'.map (·.2)).Nodup → L'.Pairwise (fun q r => TS.code 64 q.2 ≤ TS.code 64 r.2) → H1 p = none → Q (.ref p) (upd H1 p (.lst (L'.map fun q => V.ref q.1)))
theorem pe_sortedSetP {a : Expr} {ta : TE} {p p2 q pos : Pos} (hc : X.calm = true) (hu : X.A.units + 64 < cLine) (hg : Gl X "sorted") (hm : X.mg "sorted" = none) (hg2 : Gl X "set") (hm2 : X.mg "set" = none) (ha : PE X a ta)
    (na : starEach [a] X.env = (false, eval a X.env) :: starEach [] X.env) : PE X (.Call (.Name "sorted" p) [.Call (.Name "set" p2) [a] [] q] [] pos) (tSetP X.K ta) := by
  refine ⟨fun pins s σ H Q I h => ?_⟩
  refine Call_ (ld_blt I hg hm PyProof.Rows.boot_sorted ?_)
  refine PyProof.Rows.callWith_builtin1 (PyProof.Rows.args_cons ?_ rfl) rfl rfl
  refine Call_ (ld_blt I hg2 hm2 PyProof.Rows.boot_set ?_)
  refine PyProof.Rows.callWith_type1 (PyProof.Rows.args_cons (thn (ha.run pins s σ H _ I h) fun v s1 ⟨x, H1, I1, r1, q1⟩ => PyProof.Rows.args_nil ?_) na) na rfl
  obtain ⟨l, ks, rfl, hq, hk, hf, hB, q1⟩ := q1
  cases r1
  obtain ⟨its, r, pl, hz⟩ := I1.list hq
  refine call_set_few (P := X.prog) (w := X.w) ks (I1.ok.hd hc) pl.isList (by simpa using refs_of_vals r) (fun p hp => I1.isT (hk p hp)) hf (by omega) fun h' tk L es ep t R g kp => ?_
  refine PyProof.Rows.args_nil ?_
  have I2 : Inv X pins σ H1 { s1 with heap := h', toks := tk } := I1.kept kp
  have sub : ∀ p ∈ L, p ∈ ks := fun p hp => List.mem_of_mem_take (g.sub p hp)
  refine sorted_setT (s := { s1 with heap := h', toks := tk }) R (I1.ok.hd hc) (d := 2) (B := 64) (by decide) (fun p hp => hB p (sub p hp)) fun s' p out c2 L' k gg o hp hg3 hout pm pw => ?_
  have hn : H1 p = none := I2.hok.fresh hp
  have hfew : L'.length < 64 := by rw [pm.length_eq]; exact R.few
  have hlen : (L'.map fun q => V.ref q.1).length ≤ sizeLine := by rw [List.length_map, sizeLine_eq]; omega
  have hv : Vals (L'.map fun q => V.ref q.1) out.toList := by rw [hout]; exact vals_of_refs L'
  have J : Inv X pins σ (upd H1 p (.lst (L'.map fun q => V.ref q.1))) { s1 with heap := s'.heap, gens := s'.gens, drawn := s'.drawn, toks := s'.toks } :=
    Inv.call (s := { s1 with heap := h', toks := tk }) I2 (ch := []) (Un.laid k hp hn) (I2.hok.laid k hp ⟨hlen, out.toList, c2, hv, hg3⟩) (by rw [gg]; exact I2.bare) (fun _ z => nomatch z)
  have e : s' = { s1 with heap := s'.heap, gens := s'.gens, drawn := s'.drawn, toks := s'.toks } := by
    cases s'
    cases s1
    cases o
    rfl
  rw [e]
  refine ⟨.ref p, _, J, rfl, q1 L' p (fun q hq => sub q (pm.mem_iff.mp hq)) (fun q hq => ?_) ((pm.map (·.2)).nodup_iff.mpr R.nd) pw hn⟩
  rw [(pm.map (·.2)).mem_iff]
  exact g.all q (by rw [List.take_length]; exact hq)
end
section
variable {prog : Program} {w : World} {A : Around} {E : Value → Shared → Prop} {s : Shared}
theorem adjust_rev (n : Nat) : Builtin.Slice.sliceAdjust none none (-1) (n : Int) = ((n : Int) - 1, -1) := by
  unfold Builtin.Slice.sliceAdjust
  simp
theorem places_rev (n : Nat) : Builtin.Slice.slicePlaces ((n : Int) - 1) (-1) (-1) = n := by
  unfold Builtin.Slice.slicePlaces
  rw [if_neg (by decide)]
  by_cases h : (n : Int) - 1 > -1
  · rw [if_pos h]
    have : ((n : Int) - 1 - -1 - 1) / (- -1) + 1 = n := by
      rw [show (- -1 : Int) = 1 by decide, Int.ediv_one]; omega
    rw [this]; rfl
  · rw [if_neg h]
    omega
theorem sliceApplied_rev {sl : Addr} {n : Nat} {u : Tok} {Q : Int × Int × Nat → Shared → Prop} (hs : s.heap.IsSliceOf sl .none .none (.int (-1) u)) (h : Q ((n : Int) - 1, -1, n) s) :
    wpAny (model prog w) A (Builtin.Slice.sliceApplied (.ref sl) (pure (n : Int))) Q E s := by
  obtain ⟨os, hos, hcs, hds⟩ := id hs
  unfold Builtin.Slice.sliceApplied Builtin.Slice.sliceFields
  refine wpAny_bind (wpAny_bind (wpAny_field hos hds (x := .none) rfl (wpAny_bind (wpAny_field hos hds (x := .none) rfl (wpAny_bind (wpAny_field hos hds (x := .int (-1) u) rfl (wpAny_pure ?_)))))))
  refine wpAny_bind (slicePart_int ?_)
  show wpAny _ _ (if ((-1 : Int) == 0) = true then _ else _) _ _ s
  rw [if_neg (by decide)]
  refine wpAny_bind (slicePart_none (wpAny_bind (slicePart_none (wpAny_bind (wpAny_pure ?_)))))
  show wpAny _ _ (match Builtin.Slice.sliceAdjust none none (-1) (n : Int) with | (lo, hi) => pure (lo, (-1 : Int), Builtin.Slice.slicePlaces lo hi (-1))) _ _ s
  rw [adjust_rev n]
  show wpAny _ _ (pure ((n : Int) - 1, (-1 : Int), Builtin.Slice.slicePlaces ((n : Int) - 1) (-1) (-1))) _ _ s
  rw [places_rev n]
  exact wpAny_pure h
theorem fm_cg {α β : Type} {f g : α → Option β} : ∀ {l : List α}, (∀ x ∈ l, f x = g x) → l.filterMap f = l.filterMap g
  | [], _ => rfl
  | x :: l, h => by
    rw [List.filterMap_cons, List.filterMap_cons, h x List.mem_cons_self, fm_cg fun y hy => h y (List.mem_cons_of_mem _ hy)]
theorem pick_rev (xs : Array Value) : ((List.range xs.size).filterMap fun (k : Nat) => xs[((xs.size : Int) - 1 + (k : Int) * (-1)).toNat]?).toArray = xs.toList.reverse.toArray := by
  congr 1
  rw [show xs.size = xs.toList.length from rfl]
  have e0 : ∀ i : Nat, xs[i]? = xs.toList[i]? := fun i => by simp
  simp only [e0]
  generalize xs.toList = l
  have e : ∀ k ∈ List.range l.length, (fun k : Nat => l[((l.length : Int) - 1 + (k : Int) * (-1)).toNat]?) k = (fun k : Nat => l.reverse[k]?) k := fun k hk => by
    rw [List.mem_range] at hk
    show l[((l.length : Int) - 1 + (k : Int) * (-1)).toNat]? = l.reverse[k]?
    rw [List.getElem?_reverse hk, show ((l.length : Int) - 1 + (k : Int) * (-1)).toNat = l.length - 1 - k by omega]
  rw [fm_cg e]
  have key : ∀ m : List Value, (List.range m.length).filterMap (fun k => m[k]?) = m := by
    intro m
    induction m with
    | nil => rfl
    | cons x m ih =>
      rw [List.length_cons, List.range_succ_eq_map, List.filterMap_cons]
      show x :: List.filterMap (fun k => (x :: m)[k]?) (List.map Nat.succ (List.range m.length)) = x :: m
      rw [List.filterMap_map]
      congr 1
  have := key l.reverse
  rw [List.length_reverse] at this
  exact this
theorem getItem_tuple_rev {t sl : Addr} {items : Array Value} {u : Tok} {Q : Value → Shared → Prop} (ht : IsTup s.heap t items) (hs : s.heap.IsSliceOf sl .none .none (.int (-1) u))
    (h : Q (.ref s.heap.objs.size) { s with heap := s.heap.push { cls := .type "tuple", data := .seq items.toList.reverse.toArray } })
    (hsz : items.size ≤ sizeLine := by size_fits) : wpAny (model prog w) A (getItem (.ref t) (.ref sl)) Q E s := by
  have hdrop : sizeOk (.seq items.toList.reverse.toArray) := by
    show items.toList.reverse.toArray.size ≤ sizeLine
    rw [List.size_toArray, List.length_reverse, Array.length_toList]
    omega
  obtain ⟨os, hos, hcs, hds⟩ := id hs
  have hTs : s.TypeIs (.ref sl) "slice" := ⟨os, hos, hcs⟩
  unfold getItem
  try with_reducible refine wpAny_holding ?_
  first | refine wpAny_bind (wpAny_pure ?_) | skip
  refine wpAny_bind (wpAny_sequenceKey ht.typeIs (by decide) ?_)
  refine wpAny_bind (wpAny_callSpecial?_slot (name := Str.ofString "__getitem__") ht.typeIs slot_tuple_getitem
    (wpAny_call_entry slot_tuple_getitem ht.typeIs entry_tuple_getitem ?_ (args_tuple_getitem _ _)))
  show wpAny _ _ (Builtin.Tuple.tupleItemsOf (.ref t) >>= _) _ _ s
  refine wpAny_bind (tupleItemsOf_ ht ?_)
  refine wpAny_bind (wpAny_typeOf hTs ?_)
  rw [if_pos (by decide)]
  refine wpAny_bind (sliceApplied_rev hs ?_)
  have hno : ¬ ((((items.size : Int) - 1) == 0 && (-1 : Int) == 1 && items.size == items.size) = true) := by
    have : ((-1 : Int) == 1) = false := by decide
    rw [this]; simp
  show wpAny _ _ (if (((items.size : Int) - 1) == 0 && (-1 : Int) == 1 && items.size == items.size) = true then _ else _) _ _ s
  rw [if_neg hno, pick_rev items]
  first
    | exact wpAny_bind (m := Builtin.Tuple.tupleExact _) (wpAny_newObj_type (wpAny_pure ⟨_, rfl, wpAny_pure h⟩) hdrop)
    | exact wpAny_bind (m := Builtin.Tuple.tupleExact _) (wpAny_newObj_type (wpAny_bind (wpAny_pure (wpAny_pure ⟨_, rfl, wpAny_pure h⟩))) hdrop)
    | exact wpAny_bind (wpAny_bind (m := Builtin.Tuple.tupleExact _) (wpAny_newObj_type (wpAny_pure (wpAny_pure ⟨_, rfl, wpAny_pure h⟩)) hdrop))
    | exact wpAny_bind (wpAny_bind (m := Builtin.Tuple.tupleExact _) (wpAny_newObj_type (wpAny_pure ⟨_, rfl, wpAny_pure h⟩) hdrop))
end
section
variable {X : Cx}
noncomputable def tRev2 (K : Frag) (te : TE) : TE := fun σ H Q => te σ H fun x H1 => (∃ a xs, x = V.ref a ∧ SqL K H1 a xs ∧ ∀ p, H1 p = none → Q (.ref p) (upd H1 p (.lst xs.reverse))) ∨ (∃ a xs, x = V.ref a ∧ SqT K H1 a xs ∧ ∀ p, H1 p = none → Q (.ref p) (upd H1 p (.tup xs.reverse)))
theorem pe_rev2 {e : Expr} {te : TE} {k : Nat} {p1 p2 p3 pos : Pos} (he : PE X e te) : PE X (.Subscript e (.Slice none none (some (.UnaryOp .USub (.Constant (.int 1) k p1) p2)) p3) pos) (tRev2 X.K te) := by
  refine ⟨fun pins s σ H Q I h => ?_⟩
  refine Subscript_ (thn (he.run pins s σ H _ I h) fun v s1 ⟨x, H1, I1, r1, q1⟩ => ?_)
  have hst : PO X (some (.UnaryOp .USub (.Constant (.int 1) k p1) p2)) (tPart (tUn (rU fun i => .int (-i)) (tC (.int 1)))) := po_some (pe_un un_neg pe_int)
  refine wpAny_Slice (thn (po_none.run pins s1 σ H1 (fun o H2 => o = none ∧ H2 = H1) I1 ⟨rfl, rfl⟩) fun vl s2 ⟨l, H2, I2, pl, el, e2⟩ => ?_)
  subst el e2
  refine thn (po_none.run pins s2 σ H2 (fun o H3 => o = none ∧ H3 = H2) I2 ⟨rfl, rfl⟩) fun vu s3 ⟨u, H3, I3, pu, eu, e3⟩ => ?_
  subst eu e3
  refine thn (hst.run pins s3 σ H3 (fun o H4 => o = some (-1) ∧ H4 = H3) I3 ⟨1, rfl, -1, rfl, rfl, rfl⟩) fun vs s4 ⟨o, H4, I4, ps, eo, e4⟩ => ?_
  subst eo e4
  have I5 : Inv X pins σ H4 { s4 with heap := s4.heap.push { cls := .type "slice", data := .fields #[vl, vu, vs] } } := I4.kept (t' := s4.toks) fun b ob q => Heap.get?_push_of_some _ q
  rcases q1 with ⟨a, xs, ex, hx, q⟩ | ⟨a, xs, ex, hx, q⟩
  · subst ex
    cases r1
    obtain ⟨its, r, ht, hz⟩ := I5.list hx
    have hlen := r.length
    show wpAny (model X.prog X.w) X.A (subscriptTail e (.Slice none none (some (.UnaryOp .USub (.Constant (.int 1) k p1) p2)) p3) (.ref a) (.ref s4.heap.objs.size)) (EP X pins σ Q) X.xe { s4 with heap := s4.heap.push { cls := .type "slice", data := .fields #[vl, vu, vs] } }
    refine tail_any (ops := [.ref a, .ref s4.heap.objs.size]) ht.isList.typeIs (PySem.slot_list_getitem.lookup) ?_ (by with_unfolding_all rfl)
    refine wpAny_getItem_list_slice ht.isList (Heap.IsSliceOf.new _ vl vu vs) pl pu ps (by decide) ?_ (by rw [List.size_toArray]; omega)
    rw [PySem.W.krv_pick]
    refine ⟨.ref _, _, I5.laid (t' := s4.toks) (o := .lst xs.reverse) (fun b ob q => Heap.get?_push_of_some _ q) (Nat.le_refl _) ?_, rfl, q _ (I5.hok.fresh (Nat.le_refl _))⟩
    exact ⟨by rw [List.length_reverse]; exact hz, _, 0, r.reverse, Heap.get?_push_size _ rfl⟩
  · subst ex
    cases r1
    obtain ⟨its, r, ht, hz⟩ := I5.tuple hx
    have hlen := r.length
    cases pl
    cases pu
    cases ps
    rename_i u _
    show wpAny (model X.prog X.w) X.A (subscriptTail e (.Slice none none (some (.UnaryOp .USub (.Constant (.int 1) k p1) p2)) p3) (.ref a) (.ref s4.heap.objs.size)) (EP X pins σ Q) X.xe { s4 with heap := s4.heap.push { cls := .type "slice", data := .fields #[.none, .none, .int (-1) u] } }
    refine tail_any (ops := [.ref a, .ref s4.heap.objs.size]) ht.typeIs (slot_tuple_getitem.lookup) ?_ (by with_unfolding_all rfl)
    refine getItem_tuple_rev ht (Heap.IsSliceOf.new _ .none .none (.int (-1) u)) ?_ (by rw [List.size_toArray]; omega)
    refine ⟨.ref _, _, I5.laid (t' := s4.toks) (o := .tup xs.reverse) (fun b ob q => Heap.get?_push_of_some _ q) (Nat.le_refl _) ?_, rfl, q _ (I5.hok.fresh (Nat.le_refl _))⟩
    exact ⟨by rw [List.length_reverse]; exact hz, _, r.reverse, IsTup.new _ _⟩
end
theorem lexN_asym : ∀ {p q : List Int}, lexN p q = true → lexN q p = false
  | [], [], h => by cases h
  | [], _ :: _, _ => rfl
  | _ :: _, [], h => by cases h
  | x :: p, y :: q, h => by
    unfold lexN at h ⊢
    by_cases e : x = y
    · rw [if_pos e] at h
      rw [if_pos e.symm]
      exact lexN_asym h
    · rw [if_neg e] at h
      rw [if_neg fun z => e z.symm]
      have := of_decide_eq_true h
      exact decide_eq_false (by omega)
theorem lexN_neg : ∀ {p q r : List Int}, lexN q p = false → lexN r q = false → lexN r p = false
  | _, _, [], h1, h2 => by
    rename_i p q
    cases q with
    | nil => exact h1
    | cons y q => cases h2
  | [], _, _ :: _, h1, h2 => rfl
  | x :: p, q, z :: r, h1, h2 => by
    cases q with
    | nil => cases h1
    | cons y q =>
      unfold lexN at h1 h2 ⊢
      by_cases e1 : y = x
      · rw [if_pos e1] at h1
        by_cases e2 : z = y
        · rw [if_pos e2] at h2
          rw [if_pos (e2.trans e1)]
          exact lexN_neg h1 h2
        · rw [if_neg e2] at h2
          rw [if_neg fun e => e2 (e.trans e1.symm)]
          have := of_decide_eq_false h2
          exact decide_eq_false (by omega)
      · rw [if_neg e1] at h1
        have h1 := of_decide_eq_false h1
        by_cases e2 : z = y
        · rw [if_neg (by omega)]
          exact decide_eq_false (by omega)
        · rw [if_neg e2] at h2
          have h2 := of_decide_eq_false h2
          rw [if_neg (by omega)]
          exact decide_eq_false (by omega)
theorem lexN_cons (x y : Int) (p q : List Int) : lexN (x :: p) (y :: q) = if x = y then lexN p q else decide (x < y) := rfl
theorem swo_lexN (k : Value → List Int) : SrtO.Swo fun v u => lexN (k v) (k u) := ⟨fun x y h => lexN_asym h, fun x y z h1 h2 => lexN_neg h1 h2⟩
noncomputable abbrev IntsP : List Int → List Value → Prop := Paired fun (i : Int) (u : Value) => ∃ t, u = Value.int i t
noncomputable def IsInts (h : Heap) (v : Value) (p : List Int) : Prop := ∃ a o its n, v = .ref a ∧ h.get? a = some o ∧ o.cls = .type "tuple" ∧ o.data = .seq its n ∧ IntsP p its.toList
theorem IsInts.keeps {h h' : Heap} {v : Value} {p : List Int} (x : IsInts h v p) (k : ∀ b o, h.get? b = some o → o.cls = .type "tuple" → h'.get? b = some o) : IsInts h' v p := by
  obtain ⟨a, o, its, n, e, ho, hc, hd, r⟩ := x
  exact ⟨a, o, its, n, e, k _ _ ho hc, hc, hd, r⟩
section
variable {prog : Program} {w : World} {A : Around} {s : Shared} {E : Value → Shared → Prop}
theorem kat_ints {s : Shared} (fin : Bool) : ∀ (p q : List Int) (us ws : List Value) (i : Nat) (r : Bool), IntsP p us → IntsP q ws → fin = decide (p.length < q.length) → r = lexN p q →
    PySem.W.KatLex prog w A true fin (fun c s' => s' = s ∧ c = r) (us.zip ws) i s
  | [], [], _, _, i, r, .nil, .nil, e, er => PySem.W.kat_nil ⟨rfl, by rw [e, er]; rfl⟩
  | [], y :: q, _, _, i, r, .nil, .cons _ _, e, er => PySem.W.kat_nil ⟨rfl, by rw [e, er]; exact decide_eq_true (by simp)⟩
  | x :: p, [], _, _, i, r, .cons _ _, .nil, e, er => PySem.W.kat_nil ⟨rfl, by rw [e, er]; exact decide_eq_false (by simp)⟩
  | x :: p, y :: q, u :: us, v :: ws, i, r, .cons h1 t1, .cons h2 t2, e, er => by
    obtain ⟨t, rfl⟩ := h1
    obtain ⟨t', rfl⟩ := h2
    show PySem.W.KatLex prog w A true fin _ ((.int x t, .int y t') :: us.zip ws) i s
    refine PySem.W.kat_cons (SeqAt.EqAt.int_int x t y t' prog w _ _ ?_)
    refine PySem.W.kat_go (fun e1 => ?_) (fun e1 => ?_)
    · have ex : x = y := by simpa using e1
      refine PySem.W.kat_yes (kat_ints fin p q us ws (i + 1) r t1 t2 (by rw [e]; simp) ?_)
      rw [er, lexN_cons, if_pos ex]
    · have ex : ¬ x = y := by simpa using e1
      have e3 : r = decide (x < y) := by rw [er, lexN_cons, if_neg ex]
      refine PySem.W.kat_no ?_
      cases i with
      | zero => exact PyProof.Rows.oneLt_int ⟨rfl, e3.symm⟩
      | succ i => exact PySem.W.kat_one _ _ (PyProof.Rows.lt_int ⟨rfl, e3.symm⟩)
theorem ints_cmp {vs : List Value} {k : Value → List Int} (hp : ∀ v ∈ vs, IsInts s.heap v (k v)) : SrtO.Cmp prog w A s (tuples' true) (fun p => p.1 ∈ vs) (SrtO.lt2 fun v u => lexN (k v) (k u)) := by
  intro p q hm hm'
  have h1 := hp _ hm
  have h2 := hp _ hm'
  show wpAny (model prog w) A (keyLt' (tuples' true) p.1 q.1) (fun r s' => s' = s ∧ r = lexN (k p.1) (k q.1)) (fun _ _ => False) s
  obtain ⟨a, o, its, n, e, ho, hc, hd, r1⟩ := h1
  obtain ⟨a', o', its', n', e', ho', hc', hd', r2⟩ := h2
  have l1 := Paired.length r1
  have l2 := Paired.length r2
  generalize k p.1 = x at r1 l1 ⊢
  generalize k q.1 = y at r2 l2 ⊢
  rw [e, e']
  refine PySem.W.kat_lt ho hd ho' hd' ?_
  exact kat_ints _ x y _ _ 0 _ r1 r2 (by rw [l1, l2, Array.length_toList, Array.length_toList]) rfl
theorem firsts_ints {h : Heap} : ∀ {vs : List Value} {k : Value → List Int}, (∀ v ∈ vs, IsInts h v (k v) ∧ k v ≠ []) → ∃ fs : List Value, PySem.W.KatTups h vs fs ∧ fs.length = vs.length ∧ ∀ f ∈ fs, ∃ x t, f = Value.int x t
  | [], _, _ => ⟨[], PySem.W.KatTups.nil, rfl, fun _ hm => by simp at hm⟩
  | v :: vs, k, hp => by
    obtain ⟨fs, h1, h2, h3⟩ := firsts_ints (vs := vs) (k := k) fun v' hm => hp v' (List.mem_cons_of_mem _ hm)
    obtain ⟨⟨a, o, its, n, e, ho, hc, hd, r⟩, hne⟩ := hp v (List.mem_cons_self ..)
    subst e
    cases hk : k (.ref a) with
    | nil => exact (hne hk).elim
    | cons x p =>
      rw [hk] at r
      obtain ⟨l, rfl⟩ : ∃ l : List Value, its = l.toArray := ⟨its.toList, by simp⟩
      rw [List.toList_toArray] at r
      cases r with
      | cons h t =>
        obtain ⟨tk, rfl⟩ := h
        refine ⟨.int x tk :: fs, PySem.W.KatTups.cons ho hc hd (by simp) h1, by rw [List.length_cons, List.length_cons, h2], fun f hm => ?_⟩
        rcases List.mem_cons.mp hm with rfl | hm
        · exact ⟨x, tk, rfl⟩
        · exact h3 f hm
theorem ints_sortable {a : Addr} {vs : List Value} {k : Value → List Int} (h0 : 0 < vs.length) (hp : ∀ v ∈ vs, IsInts s.heap v (k v) ∧ k v ≠ []) (ha : ∀ o, s.heap.get? a = some o → o.cls ≠ .type "tuple") : SrtO.SortableO prog w A s a vs fun v u => lexN (k v) (k u) := by
  intro h' keep
  have hp' : ∀ v ∈ vs, IsInts h' v (k v) := fun v hm => (hp v hm).1.keeps fun b o e c => keep b o (fun z => by subst z; exact ha o e c) e
  obtain ⟨fs, h1, h2, h3⟩ := firsts_ints (k := k) fun v hm => ⟨hp' v hm, (hp v hm).2⟩
  refine ⟨tuples' true, fun Q E hq => ?_, ints_cmp hp'⟩
  refine PySem.W.kat_kind (T := .type "int") h1 (by omega) (fun f hm => ?_) (by rfl) ?_
  · obtain ⟨x, t, rfl⟩ := h3 f hm
    exact PySem.W.Looks.now
  · have e : (Value.type "int" != Value.type "tuple") = true := by first | decide +kernel | rfl | decide
    rw [e]
    exact hq
theorem sorted_ints {l : Addr} {vs : List Value} {k : Value → List Int} {Q : Value → Shared → Prop} (hl : s.heap.IsList l vs.toArray) (hz : vs.length ≤ sizeLine) (hp : ∀ v ∈ vs, IsInts s.heap v (k v) ∧ k v ≠ [])
    (h : ∀ (h' : Heap) (d : Addr) (out : List Value), SrtO.Srtd (fun v u => lexN (k v) (k u)) out → SrtO.Stb (fun v u => lexN (k v) (k u)) out vs → (∀ b o, s.heap.get? b = some o → h'.get? b = some o) → s.heap.objs.size ≤ d → (∃ n, h'.get? d = some (seqObj "list" out.toArray n)) → Q (.ref d) { s with heap := h' }) :
    wpAny (model prog w) A (call (.builtin "sorted") [.ref l]) Q E s := by
  refine SrtO.sorted_ord (swo_lexN k) hl hz (fun h2 h₁ a ha kk => ?_) fun out hs hb => ?_
  · refine ints_sortable (s := { s with heap := h₁ }) (by omega) (fun v hm => ⟨(hp v hm).1.keeps fun b o e _ => (kk b o e).2, (hp v hm).2⟩) fun o e => ?_
    have e' : some o = some (seqObj "list" vs.toArray 0) := e.symm.trans ha
    cases e'
    intro c
    exact absurd (Value.type.inj c) (by decide)
  · exact h _ _ out hs hb (fun b o e => PyProof.Rows.sortedAll_old e) (Nat.le_succ _) (PyProof.Rows.sortedAll_at s.heap vs out.toArray)
end
section
variable {X : Cx} {cx : Cls2}
noncomputable def intsAt (h : Heap) : Value → List Int
  | .ref b => match h.get? b with
    | some o => match o.data with
      | .seq a _ => a.toList.map fun u => match u with | .int x _ => x | _ => 0
      | _ => []
    | none => []
  | _ => []
theorem ints_vals : ∀ {p : List Int} {us : List Value}, Vals (p.map V.int) us → IntsP p us ∧ us.map (fun u => match u with | .int x _ => x | _ => 0) = p
  | [], _, .nil => ⟨.nil, rfl⟩
  | x :: p, u :: us, .cons h t => by
    obtain ⟨i1, i2⟩ := ints_vals (p := p) t
    obtain ⟨tk, rfl⟩ := h
    exact ⟨.cons ⟨tk, rfl⟩ i1, by rw [List.map_cons, i2]⟩
theorem ints_one {pins : List (Addr × Obj)} {σ : L2.St} {H : Hp} {s : Shared} (I : Inv X pins σ H s) {p : List Int} {b : Addr} (r : RepV X.K H (tupI p) (.ref b)) : intsAt s.heap (.ref b) = p ∧ IsInts s.heap (.ref b) p := by
  obtain ⟨t, vs, e, hq, rr⟩ := r
  cases e
  have e := rr.ints
  subst e
  obtain ⟨its, rv, ⟨o, ho, hc, n, hd⟩, _⟩ := I.tuple hq
  obtain ⟨h1, h2⟩ := ints_vals rv
  refine ⟨?_, ⟨b, o, its.toArray, n, rfl, ho, hc, hd, h1⟩⟩
  show (match s.heap.get? b with | some o => (match o.data with | .seq a _ => a.toList.map (fun u => match u with | .int x _ => x | _ => 0) | _ => []) | none => []) = p
  rw [ho]
  show (match o.data with | .seq a _ => a.toList.map (fun u => match u with | .int x _ => x | _ => 0) | _ => []) = p
  rw [hd]
  exact h2
theorem ints_each {pins : List (Addr × Obj)} {σ : L2.St} {H : Hp} {s : Shared} (I : Inv X pins σ H s) : ∀ {ps : List (List Int)} {us : List Value}, Paired (fun (p : List Int) (u : Value) => ∃ b, u = .ref b ∧ RepV X.K H (tupI p) (.ref b)) ps us →
    ps = us.map (intsAt s.heap) ∧ ∀ u ∈ us, ∃ b, u = .ref b ∧ IsInts s.heap u (intsAt s.heap u) ∧ RepV X.K H (tupI (intsAt s.heap u)) (.ref b)
  | [], _, .nil => ⟨rfl, fun u h => by cases h⟩
  | p :: ps, u :: us, .cons ⟨b, e, r⟩ t => by
    subst e
    obtain ⟨i1, i2⟩ := ints_each I t
    obtain ⟨h1, h2⟩ := ints_one I r
    refine ⟨by rw [List.map_cons, h1, ← i1], fun u hu => ?_⟩
    rcases List.mem_cons.mp hu with rfl | hu
    · rw [h1]; exact ⟨b, rfl, h2, r⟩
    · exact i2 u hu
theorem ints_rep {K : Frag} {H : Hp} {f : Value → List Int} : ∀ (l : List Value), (∀ u ∈ l, ∃ b, u = .ref b ∧ RepV K H (tupI (f u)) (.ref b)) → RepL K H ((l.map f).map tupI) (l.map backV)
  | [], _ => .nil
  | u :: l, h => by
    obtain ⟨b, e, r⟩ := h u List.mem_cons_self
    subst e
    exact .cons r (ints_rep l fun x hx => h x (List.mem_cons_of_mem _ hx))
theorem rep_refs {K : Frag} {H : Hp} : ∀ {ps : List (List Int)} {vs : List V} {us : List Value}, RepL K H (ps.map tupI) vs → Vals vs us → Paired (fun (p : List Int) (u : Value) => ∃ b, u = .ref b ∧ RepV K H (tupI p) (.ref b)) ps us
  | [], _, us, e, r => by cases e; cases r; exact .nil
  | p :: ps, _, us, ⟨v, vr, e, r, rr⟩, rv => by
    subst e
    cases rv with
    | cons h t =>
      obtain ⟨b, vs, rfl, h1, h2⟩ := r
      cases h
      exact .cons ⟨b, rfl, b, vs, rfl, h1, h2⟩ (rep_refs rr t)
theorem call1_sortedN : CallR X (.builtin "sorted") (c1of X.K cx .sortedN) := by
  intro pins s σ H xs us Q I r w
  obtain ⟨v, rfl, S, a, hr, ra, w⟩ := w
  obtain ⟨c, w, hc⟩ := view_of hr ra w
  obtain ⟨ps, rfl, hne, k⟩ := w
  obtain ⟨p, vs, rfl, hp, r1⟩ := hc
  obtain ⟨its, rv, hl, hz⟩ := I.list (SqL.of hp)
  obtain ⟨u, rfl, ru⟩ := vals1 r
  obtain rfl : u = Value.ref p := ru
  obtain ⟨ep, each⟩ := ints_each I (rep_refs r1 rv)
  refine sorted_ints (k := intsAt s.heap) hl.isList (by rw [← rv.length]; exact hz) (fun v hv => ?_) fun h' d out h1 h2 kp hd hn => ?_
  · obtain ⟨b, _, h, _⟩ := each v hv
    exact ⟨h, hne _ (by rw [ep]; exact List.mem_map_of_mem hv)⟩
  have h3 : ∀ u ∈ out, ∃ a, u = Value.ref a := fun u hu => let ⟨b, e, _⟩ := each u (h2.perm.mem_iff.mp hu); ⟨b, e⟩
  obtain ⟨n, hn⟩ := hn
  have hln : (out.map backV).length ≤ sizeLine := by
    rw [List.length_map, h2.perm.length_eq, ← rv.length]
    exact hz
  refine ⟨.ref d, upd H d (.lst (out.map backV)), I.laid (t' := s.toks) kp hd ⟨hln, out, n, vals_back h3, hn⟩, rfl, ?_⟩
  refine fin_vl (k (out.map (intsAt s.heap)) ?_ ?_) hr (ints_rep out fun u hu => let ⟨b, e, _, h⟩ := each u (h2.perm.mem_iff.mp hu); ⟨b, e, h⟩) d (I.hok.fresh hd)
  · rw [ep]; exact h2.perm.map _
  · show List.Pairwise _ _
    rw [List.pairwise_map]
    exact h1
theorem dn_keys {K : Frag} {H : Hp} : ∀ {kvs : List (D × D)} {xs : List NE}, DnR K H kvs xs → RepL K H (kvs.map Prod.fst) (xs.map fun x => V.ref x.2.1)
  | _, _, .nil => .nil
  | _, _, .cons h t => .cons h.2.2.1 (dn_keys t)
theorem items_keys {acc : Array Value} {es : Array DictEntry} {w : World} {xs : List NE} (he : es.toList = xs.map (entN w)) (it : ItemsOf (fun i v => ∃ en : DictEntry, es[i]? = some en ∧ v = en.key) acc es.size) : acc.toList = xs.map fun x => Value.ref x.2.1 := by
  have les : es.size = xs.length := by rw [← Array.length_toList, he, List.length_map]
  have hl : acc.toList.length = xs.length := by rw [Array.length_toList, it.1]; exact les
  apply List.ext_getElem?
  intro j
  rw [List.getElem?_map]
  cases hj : acc.toList[j]? with
  | none =>
    have h1 := List.getElem?_eq_none_iff.mp hj
    rw [List.getElem?_eq_none (by omega)]
    rfl
  | some v =>
    obtain ⟨en, hen, hv⟩ := it.2 j v (by rw [← Array.getElem?_toList]; exact hj)
    rw [← Array.getElem?_toList, he, List.getElem?_map] at hen
    cases hb : xs[j]? with
    | none => rw [hb] at hen; cases hen
    | some x =>
      rw [hb] at hen
      cases hen
      rw [hv]; rfl
theorem key_rep {K : Frag} {H : Hp} {d : D} (h : keyD d = true) : RepV K H d (kV (keyK d)) := by
  cases d <;> first | rfl | cases h
theorem dk_keys {K : Frag} {H : Hp} : ∀ {kvs : List (D × D)} {ks : List (Key × V)}, DicR K H kvs ks → RepL K H (kvs.map Prod.fst) (ks.map fun kv => kV kv.1)
  | _, _, .nil => .nil
  | _, _, .cons h t => .cons (by
      obtain ⟨h1, h2⟩ := KeyR.of h.1
      show RepV K H _ (kV _)
      rw [h2]
      exact key_rep h1) (dk_keys t)
theorem call1_listK (hcalm : X.calm = true) : CallR X (.type "list") (c1of X.K cx .listK) := by
  intro pins s σ H xs us Q I r w
  obtain ⟨v, rfl, S, a, hr, ra, w⟩ := w
  obtain ⟨c, w, hc⟩ := view_of hr ra w
  obtain ⟨kvs, rfl, k⟩ := w
  obtain ⟨p, ks, rfl, hp, rd⟩ := hc
  exact call_list_dK hcalm pins s σ H _ us Q I r ⟨p, ks, rfl, hp, fin_vl k hr (dk_keys rd)⟩
theorem call1_listDn (hcalm : X.calm = true) (hw : cx.w = X.w) : CallR X (.type "list") (c1of X.K cx .listDn) := by
  intro pins s σ H xs us Q I r w
  obtain ⟨v, rfl, S, a, hr, ra, w⟩ := w
  obtain ⟨c, w, hc⟩ := view_of hr ra w
  obtain ⟨kvs, rfl, k⟩ := w
  obtain ⟨d, xs, rfl, hd, rd⟩ := hc
  rw [hw] at hd
  obtain ⟨u, rfl, ru⟩ := vals1 r
  obtain rfl : u = Value.ref d := ru
  obtain ⟨o, es, ep, ho, hx, hdt, he⟩ := dn_obj I (.inl hd)
  have les : es.size = xs.length := by rw [← Array.length_toList, he, List.length_map]
  refine PySem.W.kdl_call (L2.kdl_raw rd.m hx hdt) (I.ok.hd hcalm) ho (by rw [les]; exact rd.z) fun h' tk acc' c' kp e it => ?_
  have ea := items_keys he it
  have rv : Vals (xs.map fun x => V.ref x.2.1) acc'.toList := by rw [ea]; exact vals_maps (fun x : NE => V.ref x.2.1) (fun x => Value.ref x.2.1) xs fun _ _ => rfl
  refine ⟨.ref s.heap.objs.size, _, I.laid (t' := tk) (o := .lst (xs.map fun x => V.ref x.2.1)) kp (Nat.le_refl _) ⟨by rw [List.length_map]; exact rd.z, acc'.toList, c', rv, by rw [Array.toArray_toList]; exact e⟩, rfl, ?_⟩
  exact fin_vl k hr (dn_keys rd.r) _ (I.hok.fresh (Nat.le_refl _))
theorem call1_lenDn (hw : cx.w = X.w) : CallR X (.builtin "len") (c1of X.K cx .lenDn) := by
  intro pins s σ H xs us Q I r w
  obtain ⟨v, rfl, S, a, hr, ra, w⟩ := w
  obtain ⟨c, w, hc⟩ := view_of hr ra w
  obtain ⟨kvs, rfl, k⟩ := w
  obtain ⟨d, xs, rfl, hd, rd⟩ := hc
  rw [hw] at hd
  obtain ⟨u, rfl, ru⟩ := vals1 r
  obtain rfl : u = Value.ref d := ru
  have hl := rd.r.length
  have hz := rd.z
  refine call_len_dictH rd.m (dn_of I (.inl hd) rd) (by rw [sizeLine_eq] at hz; omega) ?_
  rw [← hl]
  exact ⟨.int ((kvs.length : Nat) : Int), H, I.tok _, ⟨_, rfl⟩, fin_int k hr⟩
theorem call1_sortedDn (hcalm : X.calm = true) (hw : cx.w = X.w) : CallR X (.builtin "sorted") (c1of X.K cx .sortedDn) := by
  intro pins s σ H xs us Q I r w
  obtain ⟨v, rfl, S, a, hr, ra, w⟩ := w
  obtain ⟨c, w, hc⟩ := view_of hr ra w
  obtain ⟨kvs, ps, rfl, hks, hne, k⟩ := w
  obtain ⟨d, xs, rfl, hd, rd⟩ := hc
  rw [hw] at hd
  obtain ⟨u, rfl, ru⟩ := vals1 r
  obtain rfl : u = Value.ref d := ru
  obtain ⟨o, es, ep, ho, hx, hdt, he⟩ := dn_obj I (.inl hd)
  have les : es.size = xs.length := by rw [← Array.length_toList, he, List.length_map]
  have rk := dn_keys rd.r
  rw [hks] at rk
  refine Calls.call_function_entry PyProof.Rows.kind_sorted PyProof.Rows.plain_sorted PyProof.Rows.entry_sorted (PyProof.Rows.args_sorted1 _) ?_
  unfold Builtin.«sorted»
  refine wpAny_bind (m := checkCount "sorted" 1 1 _) (wpAny_pure ?_)
  refine wpAny_bind (PySem.W.kdu_collect (A := X.A.in1) (L2.kdl_raw rd.m hx hdt) (I.ok.hd hcalm) ho (by rw [les]; exact rd.z) fun h' tk acc hk hacc => ?_)
  have ea := items_keys he hacc
  have I1 : Inv X pins σ H { s with heap := h', toks := tk } := I.kept hk
  have rv : Vals (xs.map fun x => V.ref x.2.1) acc.toList := by rw [ea]; exact vals_maps (fun x : NE => V.ref x.2.1) (fun x => Value.ref x.2.1) xs fun _ _ => rfl
  have hal : acc.toList.length ≤ sizeLine := by rw [ea, List.length_map]; exact rd.z
  obtain ⟨ep', each⟩ := ints_each I1 (rep_refs rk rv)
  refine wpAny_bind (wpAny_newList ?_ hal)
  have hoL : (h'.push (seqObj "list" acc.toList.toArray 0)).get? h'.objs.size = some (seqObj "list" acc.toList.toArray 0) := Heap.get?_push_size _ rfl
  show wpAny _ _ _ _ _ { s with heap := h'.push (seqObj "list" acc.toList.toArray 0), toks := tk }
  refine wpAny_bind (wpAny_holding (wpAny_call_entry PyProof.Rows.slot_list_sort ⟨_, hoL, rfl⟩ PyProof.Rows.entry_list_sort
    (SrtO.list_sort_ord (s := { s with heap := h'.push (seqObj "list" acc.toList.toArray 0), toks := tk }) (swo_lexN (intsAt h')) hoL hal (fun h2 => ints_sortable (by omega) (fun v hv => ?_) fun o e => ?_) fun out h1 h2 => ⟨_, rfl, ?_⟩) (PyProof.Rows.args_list_sort _)))
  · obtain ⟨b, _, h, _⟩ := each v hv
    exact ⟨h.keeps fun b o e _ => Heap.get?_push_of_some _ e, hne _ (by rw [ep']; exact List.mem_map_of_mem hv)⟩
  · have e' : some o = some (seqObj "list" acc.toList.toArray 0) := e.symm.trans hoL
    cases e'
    intro c
    exact absurd (Value.type.inj c) (by decide)
  obtain ⟨e', he'⟩ := PyProof.Rows.sortedHeap_at (vs := acc.toList) (out := out.toArray) hoL
  have h3 : ∀ u ∈ out, ∃ a, u = Value.ref a := fun u hu => let ⟨b, e, _⟩ := each u (h2.perm.mem_iff.mp hu); ⟨b, e⟩
  have hlen : (out.map backV).length ≤ sizeLine := by
    rw [List.length_map, h2.perm.length_eq]
    exact hal
  refine wpAny_pure ⟨_, rfl, .ref h'.objs.size, upd H h'.objs.size (.lst (out.map backV)), I1.laid (t' := tk) (fun b u e => ?_) (Nat.le_refl _)
    (show ObjOk X.prog X.w _ _ _ (.lst (out.map backV)) from ⟨hlen, out, e', vals_back h3, he'⟩), rfl, ?_⟩
  · have hb : b < h'.objs.size := Heap.lt_size e
    rw [PyProof.Rows.sortedHeap_old (Nat.ne_of_lt hb) (by rw [size_push']; exact Nat.lt_succ_of_lt hb)]
    exact Heap.get?_push_of_some _ e
  · refine fin_vl (k (out.map (intsAt h')) ?_ ?_) hr (ints_rep out fun u hu => let ⟨b, e, _, h⟩ := each u (h2.perm.mem_iff.mp hu); ⟨b, e, h⟩) _ (I1.hok.fresh (Nat.le_refl _))
    · rw [ep']; exact h2.perm.map _
    · show List.Pairwise _ _
      rw [List.pairwise_map]
      exact h1
end
noncomputable def RelX (K : Frag) (S : Hs) (H : Hp) (σ2 : Sl) (σ : L2.St) : Prop := σ2.length = σ.length ∧ ∀ (i : Nat) (x : Vx), σ2[i]? = some (some x) → ∃ v, σ[i]? = some (some v) ∧ RepX K H S x v
noncomputable abbrev WE := Sl → Hs → LK2 → Prop
noncomputable abbrev WI := Sl → Hs → (It2 → Hs → Prop) → Prop
noncomputable def kE (K : Frag) (cx : Cls2) (S : Hs) (H : Hp) (Q : VK) : LK2 := fun xs S' => ∃ x, xs = [x] ∧ KVof K cx S H Q x S'
noncomputable def liftE (K : Frag) (cx : Cls2) (w : WE) : TE := fun σ H Q => ∃ S σ2, Rel K cx S H ∧ RelX K S H σ2 σ ∧ w σ2 S (kE K cx S H Q)
noncomputable def kA (K : Frag) (cx : Cls2) (S : Hs) (H : Hp) (Q : List V → Hp → Prop) : LK2 := fun xs S' => ∀ vs H', Rel K cx S' H' → Keep S S' H H' → Paired (RepX K H' S') xs vs → Q vs H'
noncomputable def liftA (K : Frag) (cx : Cls2) (w : WE) : TA := fun σ H Q => ∃ S σ2, Rel K cx S H ∧ RelX K S H σ2 σ ∧ w σ2 S (kA K cx S H Q)
noncomputable def kT (K : Frag) (cx : Cls2) (S : Hs) (H : Hp) (Q : Bool → Hp → Prop) : LK2 := one1 (tstK fun b S' => ∀ H', Rel K cx S' H' → Keep S S' H H' → Q b H')
noncomputable def liftT (K : Frag) (cx : Cls2) (w : WE) : TT := fun σ H Q => ∃ S σ2, Rel K cx S H ∧ RelX K S H σ2 σ ∧ w σ2 S (kT K cx S H Q)
section
variable {K : Frag} {cx : Cls2} {S S' S1 : Hs} {H H' H1 H0 : Hp} {Q : VK} {σ2 : Sl} {σ : L2.St}
theorem RepX.keep (k : Keep S S' H H') (hr : Rel K cx S H) {x : Vx} {v : V} (r : RepX K H S x v) : RepX K H' S' x v := by
  have t := k.tups hr
  cases x with
  | d y => exact RepV.keep t _ _ r
  | vl ds => obtain ⟨a, vs, e, h, n, r⟩ := r; exact ⟨a, vs, e, (k.kp _ _ h n).1, (k.kp _ _ h n).2, r.keep t⟩
  | bw ds => obtain ⟨a, vs, e, h, n, r⟩ := r; exact ⟨a, vs, e, (k.kp _ _ h n).1, (k.kp _ _ h n).2, r.keep t⟩
  | fz ds =>
    obtain ⟨a, vs, e, h, r⟩ := r
    refine ⟨a, vs, e, ?_, r.keep t⟩
    rcases h with ⟨o, h, n⟩ | h
    · exact .inl ⟨o, (k.kp _ _ h n).1, (k.kp _ _ h n).2⟩
    · exact .inr h
  | vd ds => obtain ⟨a, vs, e, h, n, r⟩ := r; exact ⟨a, vs, e, (k.kp _ _ h n).1, (k.kp _ _ h n).2, r.keep t⟩
  | bd ds => obtain ⟨a, vs, e, h, n, r⟩ := r; exact ⟨a, vs, e, (k.kp _ _ h n).1, (k.kp _ _ h n).2, r.keep t⟩
  | st ds => exact r.elim
theorem RelX.keep (k : Keep S S' H H') (hr : Rel K cx S H) (r : RelX K S H σ2 σ) : RelX K S' H' σ2 σ := ⟨r.1, fun i x e => let ⟨v, h1, h2⟩ := r.2 i x e; ⟨v, h1, h2.keep k hr⟩⟩
theorem RepR.of (k : Keep S S1 H H1) {x : Vx} {v : V} (r : RepR K H1 H' S' x v) : RepR K H H' S' x v := ⟨r.1, fun e => let ⟨a, h1, h2⟩ := r.2 e; ⟨a, h1, k.up a h2⟩⟩
theorem KVof.of (k : Keep S S1 H H1) {z : Vx} (q : KVof K cx S H Q z S') : KVof K cx S1 H1 Q z S' := fun v H' hr k' r => q v H' hr (k.trans k') (r.of k)
theorem one1_of {P : VK2} {xs : List Vx} (h : one1 P xs S) : ∃ x, xs = [x] ∧ P x S := by
  unfold one1 at h
  split at h
  · exact ⟨_, rfl, h⟩
  · exact h.elim
theorem tstK_of {P : Bool → Hs → Prop} {x : Vx} (h : tstK P x S) : ∃ b, x = .d (.bl b) ∧ P b S := by
  unfold tstK at h
  split at h
  · exact ⟨_, rfl, h⟩
  · exact h.elim
theorem RepX.bor {x : Vx} {v : V} (r : RepX K H S x v) : RepX K H S (DL.bor x) v := by
  cases x <;> exact r
theorem bor_own (x : Vx) : own (DL.bor x) = false := by cases x <;> rfl
end
section
variable {T : Tbl} {c : Nat → List Vx → Hs → VK2 → Prop} {K : Frag} {cx : Cls2} {S : Hs} {H : Hp} {σ2 : Sl} {σ : L2.St}
theorem stepE (hc : CalMono c) {r : R} {P : VK2} {Q : VK} (hr : Rel K cx S H) (rs : RelX K S H σ2 σ) (w : wpE T c r σ2 S (one1 P))
    (h : ∀ x S1 v H1, Rel K cx S1 H1 → Keep S S1 H H1 → RelX K S1 H1 σ2 σ → RepR K H H1 S1 x v → P x S1 → Q v H1) : liftE K cx (wpE T c r) σ H Q :=
  ⟨S, σ2, hr, rs, wpE_mono hc w fun xs S1 q => let ⟨x, e, p⟩ := one1_of q; ⟨x, e, fun v H1 hr1 k r1 => h x S1 v H1 hr1 k (rs.keep k hr) r1 p⟩⟩
theorem stepA (hc : CalMono c) {r : R} {P : LK2} {Q : List V → Hp → Prop} (hr : Rel K cx S H) (rs : RelX K S H σ2 σ) (w : wpE T c r σ2 S P)
    (h : ∀ xs S1 vs H1, Rel K cx S1 H1 → Keep S S1 H H1 → RelX K S1 H1 σ2 σ → Paired (RepX K H1 S1) xs vs → P xs S1 → Q vs H1) : liftA K cx (wpE T c r) σ H Q :=
  ⟨S, σ2, hr, rs, wpE_mono hc w fun xs S1 p vs H1 hr1 k r1 => h xs S1 vs H1 hr1 k (rs.keep k hr) r1 p⟩
theorem stepT (hc : CalMono c) {r : R} {P : Bool → Hs → Prop} {Q : Bool → Hp → Prop} (hr : Rel K cx S H) (rs : RelX K S H σ2 σ) (w : wpE T c r σ2 S (one1 (tstK P)))
    (h : ∀ b S1 H1, Rel K cx S1 H1 → Keep S S1 H H1 → RelX K S1 H1 σ2 σ → P b S1 → Q b H1) : liftT K cx (wpE T c r) σ H Q :=
  ⟨S, σ2, hr, rs, wpE_mono hc w fun xs S1 => one1_mono fun x S1 => tstK_mono fun b S1 p H1 hr1 k => h b S1 H1 hr1 k (rs.keep k hr) p⟩
end
section
variable {X : Cx}
theorem peImp {e : Expr} {t t' : TE} (h : PE X e t) (i : ∀ σ H Q, t' σ H Q → t σ H Q) : PE X e t' := ⟨fun pins s σ H Q I w => h.run pins s σ H Q I (i _ _ _ w)⟩
theorem ptImp {e : Expr} {t t' : TT} (h : PT X e t) (i : ∀ σ H Q, t' σ H Q → t σ H Q) : PT X e t' := ⟨fun pins s σ H Q I w => h.run pins s σ H Q I (i _ _ _ w)⟩
theorem pwImp {e : Expr} {t t' : TT} (h : PW X e t) (i : ∀ σ H Q, t' σ H Q → t σ H Q) : PW X e t' := ⟨fun wh pins s σ H Q I w => h.run wh pins s σ H Q I (i _ _ _ w)⟩
theorem paImp {e : List Expr} {t t' : TA} (h : PA X e t) (i : ∀ σ H Q, t' σ H Q → t σ H Q) : PA X e t' := ⟨fun p pins s σ H Q I w => h.run p pins s σ H Q I (i _ _ _ w)⟩
variable {T : Tbl} {c : Nat → List Vx → Hs → VK2 → Prop} {cx : Cls2} (hc : CalMono c)
include hc
theorem snd_v {i : Nat} {x : Str} {pos : Pos} (hN : X.N[i]? = some x) (hv : Vis X.env.scope x) (h1 : (x == ("__debug__" : Str)) = false) (h2 : (x == ("__classdict__" : Str)) = false) : PE X (.Name x pos) (liftE X.K cx (wpE T c (.v i))) :=
  peImp (pe_var hN hv h1 h2) fun σ H Q ⟨S, σ2, hr, rs, x, e, y, e', q⟩ => by
    cases e'
    obtain ⟨v, h1, h2⟩ := rs.2 i x e
    exact ⟨v, h1, fin q hr h2.bor (bor_own x)⟩
theorem snd_i {i : Int} {k : Nat} {pos : Pos} : PE X (.Constant (.int i) k pos) (liftE X.K cx (wpE T c (.i i))) := peImp pe_int fun σ H Q ⟨S, σ2, hr, rs, y, e', q⟩ => by cases e'; exact fin_d q hr rfl
theorem snd_b {b : Bool} {k : Nat} {pos : Pos} : PE X (.Constant (.bool b) k pos) (liftE X.K cx (wpE T c (.b b))) := peImp pe_bl fun σ H Q ⟨S, σ2, hr, rs, y, e', q⟩ => by cases e'; exact fin_d q hr rfl
theorem snd_n {k : Nat} {pos : Pos} : PE X (.Constant .none k pos) (liftE X.K cx (wpE T c .n)) := peImp pe_non fun σ H Q ⟨S, σ2, hr, rs, y, e', q⟩ => by cases e'; exact fin_d q hr rfl
theorem snd_s {s : List Nat} {x : Str} (hs : x = sv s) {k : Nat} {pos : Pos} : PE X (.Constant (.str x) k pos) (liftE X.K cx (wpE T c (.s s))) := peImp pe_str fun σ H Q ⟨S, σ2, hr, rs, y, e', q⟩ => by subst hs; cases e'; exact fin_d q hr rfl
theorem lift_bin {f : Vx → Vx → Hs → VK2 → Prop} (hf : ∀ x y S Q Q', (∀ z S, Q z S → Q' z S) → f x y S Q → f x y S Q') {a b : R} {σ : L2.St} {H : Hp} {Q : VK} {S : Hs} {σ2 : Sl} (hr : Rel X.K cx S H) (rs : RelX X.K S H σ2 σ)
    (w : wpE T c a σ2 S (one1 fun x S1 => wpE T c b σ2 S1 (one1 fun y S2 => f x y S2 fun z S3 => kE X.K cx S H Q [z] S3))) : tOp (r2of X.K cx f) (liftE X.K cx (wpE T c a)) (liftE X.K cx (wpE T c b)) σ H Q :=
  stepE hc hr rs w fun x S1 v H1 hr1 k1 rs1 r1 w => stepE hc hr1 rs1 w fun y S2 u H2 hr2 k2 rs2 r2 w =>
    ⟨S2, x, y, hr2, r1.1.keep k2 hr1, r2.1, hf _ _ _ _ _ (fun z S3 ⟨z', e, q⟩ => by cases e; exact KVof.of (k1.trans k2) q) w⟩
theorem snd_bin {op : Operator} {o : O2} (ho : OpR X (binaryOp op) (r2of X.K cx (op2D o))) {a b : R} {ea eb : Expr} {pos : Pos} (ha : PE X ea (liftE X.K cx (wpE T c a))) (hb : PE X eb (liftE X.K cx (wpE T c b))) :
    PE X (.BinOp ea op eb pos) (liftE X.K cx (wpE T c (.o2 o a b))) := peImp (pe_op ho ha hb) fun σ H Q ⟨S, σ2, hr, rs, w⟩ => lift_bin hc (f := op2D _) (fun _ _ _ _ _ h => op2D_mono h) hr rs w
theorem snd_cmp {op : CmpOp} {o : O2} (ho : OpR X (compareOp op) (r2of X.K cx (op2D o))) {a b : R} {ea eb : Expr} {pos : Pos} (hm : behindInMarks op eb = false) (ha : PE X ea (liftE X.K cx (wpE T c a))) (hb : PE X eb (liftE X.K cx (wpE T c b))) :
    PE X (.Compare ea [op] [eb] pos) (liftE X.K cx (wpE T c (.o2 o a b))) := peImp (pe_cmpR ho ha hb hm) fun σ H Q ⟨S, σ2, hr, rs, w⟩ => lift_bin hc (f := op2D _) (fun _ _ _ _ _ h => op2D_mono h) hr rs w
theorem snd_ix (ho : IxR X (r2of X.K cx (op2D .idx))) {a b : R} {ea eb : Expr} {pos : Pos} (hp : PlainIx eb) (ha : PE X ea (liftE X.K cx (wpE T c a))) (hb : PE X eb (liftE X.K cx (wpE T c b))) :
    PE X (.Subscript ea eb pos) (liftE X.K cx (wpE T c (.o2 .idx a b))) := peImp (pe_ix ho ha hb hp) fun σ H Q ⟨S, σ2, hr, rs, w⟩ => lift_bin hc (f := op2D _) (fun _ _ _ _ _ h => op2D_mono h) hr rs w
theorem snd_neg {a : R} {ea : Expr} {pos : Pos} (ha : PE X ea (liftE X.K cx (wpE T c a))) : PE X (.UnaryOp .USub ea pos) (liftE X.K cx (wpE T c (.o1 .neg a))) :=
  peImp (pe_un (op1_neg (cx := cx)) ha) fun σ H Q ⟨S, σ2, hr, rs, w⟩ => stepE hc hr rs w fun x S1 v H1 hr1 k1 rs1 r1 w =>
    ⟨S1, x, hr1, r1.1, op1D_mono (fun z S3 ⟨z', e, q⟩ => by cases e; exact KVof.of k1 q) w⟩
theorem kE_bl {S S1 : Hs} {H : Hp} {Q : VK} {b : Bool} (q : kE X.K cx S H Q [.d (.bl b)] S1) {H1 : Hp} (k : Keep S S1 H H1) (hr1 : Rel X.K cx S1 H1) : Q (.bl b) H1 := by
  obtain ⟨x, e, q⟩ := q
  cases e
  exact fin_bl (KVof.of k q) hr1
theorem kE_of {S S1 : Hs} {H : Hp} {Q : VK} {xs : List Vx} {S' : Hs} (q : kE X.K cx S H Q xs S') {H1 : Hp} (k : Keep S S1 H H1) : kE X.K cx S1 H1 Q xs S' := let ⟨x, e, q⟩ := q; ⟨x, e, KVof.of k q⟩
theorem snd_not {a : R} {ea : Expr} {pos : Pos} (ha : PE X ea (liftE X.K cx (wpE T c a))) : PE X (.UnaryOp .Not ea pos) (liftE X.K cx (wpE T c (.not a))) :=
  peImp (pe_not ha) fun σ H Q ⟨S, σ2, hr, rs, w⟩ => stepE hc hr rs w fun x S1 v H1 hr1 k1 rs1 r1 w => by
    obtain ⟨b, rfl, w⟩ := tstK_of w
    cases r1.1
    exact ⟨b, rfl, kE_bl hc w k1 hr1⟩
theorem snd_one {op : BoolOp} {a : R} {ea : Expr} {pos : Pos} (ha : PE X ea (liftE X.K cx (wpE T c a))) : PE X (.BoolOp op [ea] pos) (liftE X.K cx (wpE T c (.one a))) :=
  peImp (pe_one ha) fun σ H Q ⟨S, σ2, hr, rs, w⟩ => stepE hc hr rs w fun x S1 v H1 hr1 k1 rs1 r1 w => by
    obtain ⟨b, rfl, w⟩ := tstK_of w
    cases r1.1
    exact kE_bl hc w k1 hr1
theorem snd_and {a r : R} {ea eb : Expr} {er : List Expr} {pos : Pos} (ha : PE X ea (liftE X.K cx (wpE T c a))) (hb : PE X (.BoolOp .And (eb :: er) pos) (liftE X.K cx (wpE T c r))) :
    PE X (.BoolOp .And (ea :: eb :: er) pos) (liftE X.K cx (wpE T c (.and a r))) :=
  peImp (pe_and ha hb) fun σ H Q ⟨S, σ2, hr, rs, w⟩ => stepE hc hr rs w fun x S1 v H1 hr1 k1 rs1 r1 w => by
    obtain ⟨b, rfl, w⟩ := tstK_of w
    cases r1.1
    refine ⟨b, rfl, ?_⟩
    cases b with
    | true => exact iteT ⟨S1, σ2, hr1, rs1, wpE_mono hc (w.t rfl) fun xs S' q => kE_of hc q k1⟩
    | false => exact iteF (kE_bl hc (w.f rfl) k1 hr1)
theorem snd_or {a r : R} {ea eb : Expr} {er : List Expr} {pos : Pos} (ha : PE X ea (liftE X.K cx (wpE T c a))) (hb : PE X (.BoolOp .Or (eb :: er) pos) (liftE X.K cx (wpE T c r))) :
    PE X (.BoolOp .Or (ea :: eb :: er) pos) (liftE X.K cx (wpE T c (.or a r))) :=
  peImp (pe_or ha hb) fun σ H Q ⟨S, σ2, hr, rs, w⟩ => stepE hc hr rs w fun x S1 v H1 hr1 k1 rs1 r1 w => by
    obtain ⟨b, rfl, w⟩ := tstK_of w
    cases r1.1
    refine ⟨b, rfl, ?_⟩
    cases b with
    | true => exact iteT (kE_bl hc (w.t rfl) k1 hr1)
    | false => exact iteF ⟨S1, σ2, hr1, rs1, wpE_mono hc (w.f rfl) fun xs S' q => kE_of hc q k1⟩
theorem snd_ife {k a b : R} {ek ea eb : Expr} {pos : Pos} (hk : PT X ek (liftT X.K cx (wpE T c k))) (ha : PE X ea (liftE X.K cx (wpE T c a))) (hb : PE X eb (liftE X.K cx (wpE T c b))) :
    PE X (.IfExp ek ea eb pos) (liftE X.K cx (wpE T c (.ife k a b))) :=
  peImp (pe_ifExp hk ha hb) fun σ H Q ⟨S, σ2, hr, rs, w⟩ => stepT hc hr rs w fun b S1 H1 hr1 k1 rs1 w => by
    cases b with
    | true => exact iteT ⟨S1, σ2, hr1, rs1, wpE_mono hc (w.t rfl) fun xs S' q => by obtain ⟨x, rfl, q⟩ := one1_of q; exact kE_of hc q k1⟩
    | false => exact iteF ⟨S1, σ2, hr1, rs1, wpE_mono hc (w.f rfl) fun xs S' q => by obtain ⟨x, rfl, q⟩ := one1_of q; exact kE_of hc q k1⟩
theorem snd_chain {o o' : O2} {op op' : CmpOp} (ho : OpR X (compareOp op) (r2of X.K cx (op2D o))) (ho' : OpR X (compareOp op') (r2of X.K cx (op2D o'))) {a b k : R} {ea eb ek : Expr} {pos : Pos}
    (ha : PE X ea (liftE X.K cx (wpE T c a))) (hb : PE X eb (liftE X.K cx (wpE T c b))) (hk : PE X ek (liftE X.K cx (wpE T c k))) (h1 : behindInMarks op eb = false) (h2 : behindInMarks op' ek = false) :
    (PE X (.Compare ea [op, op'] [eb, ek] pos) (liftE X.K cx (wpE T c (.chain o o' a b k)))) ∧ PT X (.Compare ea [op, op'] [eb, ek] pos) (liftT X.K cx (wpE T c (.chain o o' a b k))) := by
  have hm : lastMarks [op, op'] [eb, ek] = false := by
    first
      | exact h2
      | (simp only [lastMarks]; exact h2)
      | (unfold lastMarks; simp [h1, h2])
  have key : ∀ {σ : L2.St} {H : Hp} {Q : Bool → Hp → Prop} {S : Hs} {σ2 : Sl} {P : LK2}, Rel X.K cx S H → RelX X.K S H σ2 σ → wpE T c (.chain o o' a b k) σ2 S P → (∀ bb S' H', P [.d (.bl bb)] S' → Rel X.K cx S' H' → Keep S S' H H' → Q bb H') →
      tChain (r2of X.K cx (op2D o)) (r2of X.K cx (op2D o')) (liftE X.K cx (wpE T c a)) (liftE X.K cx (wpE T c b)) (liftE X.K cx (wpE T c k)) σ H (fun z H' => ∃ bb, z = .bl bb ∧ Q bb H') := fun {σ H Q S σ2 P} hr rs w fin =>
    stepE hc hr rs w fun x S1 v H1 hr1 k1 rs1 r1 w => stepE hc hr1 rs1 w fun y S2 u H2 hr2 k2 rs2 r2 w =>
      ⟨S2, x, y, hr2, r1.1.keep k2 hr1, r2.1, op2D_mono (fun z S3 q => by
        obtain ⟨bb, rfl, q⟩ := tstK_of q
        intro z H3 hr3 k3 r3
        cases r3.1
        refine ⟨bb, rfl, ?_⟩
        have rs3 := rs2.keep k3 hr2
        have ry3 := r2.1.keep k3 hr2
        cases bb with
        | true =>
          refine iteT (stepE hc hr3 rs3 (q.t rfl) fun z S4 zv H4 hr4 k4 rs4 r4 w => ⟨S4, y, z, hr4, ry3.keep k4 hr3, r4.1, op2D_mono (fun z' S5 q => ?_) w⟩)
          obtain ⟨b2, rfl, q⟩ := tstK_of q
          intro z' H5 hr5 k5 r5
          cases r5.1
          exact ⟨b2, rfl, fin _ _ _ q hr5 ((((k1.trans k2).trans k3).trans k4).trans k5)⟩
        | false => exact iteF ⟨false, rfl, fin _ _ _ (q.f rfl) hr3 ((k1.trans k2).trans k3)⟩) w⟩
  refine ⟨⟨fun pins s σ H Q I ⟨S, σ2, hr, rs, w⟩ => ?_⟩, ptImp (pt_chain ho ho' ha hb hk hm) fun σ H Q ⟨S, σ2, hr, rs, w⟩ => ?_⟩
  · have h := key (Q := fun bb H' => Q (.bl bb) H') hr rs w fun bb S' H' q hr' k => by
      obtain ⟨x, e, q⟩ := q
      cases e
      exact q _ _ hr' k ⟨rfl, fun e => by cases e⟩
    exact thn ((pe_chain ho ho' ha hb hk hm).run pins s σ H _ I h) fun u s' ⟨v, H', I', rv, bb, e, q⟩ => ⟨v, H', I', rv, by subst e; exact q⟩
  · exact key (Q := Q) hr rs w fun bb S' H' q hr' k => q H' hr' k
theorem snd_nil : PA X [] (liftA X.K cx (wpE T c .nil)) := paImp pa_nil fun σ H Q ⟨S, σ2, hr, rs, w⟩ => w [] H hr .refl .nil
theorem snd_cons {a r : R} {e : Expr} {es : List Expr} (ha : PE X e (liftE X.K cx (wpE T c a))) (hb : PA X es (liftA X.K cx (wpE T c r))) (hs : starEach (e :: es) X.env = (false, eval e X.env) :: starEach es X.env) :
    PA X (e :: es) (liftA X.K cx (wpE T c (.cons a r))) :=
  paImp (pa_cons ha hb hs) fun σ H Q ⟨S, σ2, hr, rs, w⟩ => stepE hc hr rs w fun x S1 v H1 hr1 k1 rs1 r1 w => stepA hc hr1 rs1 w fun xs S2 vs H2 hr2 k2 rs2 r2 w =>
    w (v :: vs) H2 hr2 (k1.trans k2) (.cons (r1.1.bor.keep k2 hr1) r2)
theorem rel_box {K : Frag} {S S1 : Hs} {H H1 : Hp} {x : Vx} {v : V} {P : D → Hs → Prop} (hr1 : Rel K cx S1 H1) (k1 : Keep S S1 H H1) (r : RepR K H H1 S1 x v) (w : bx x S1 P) :
    ∃ d S2, P d S2 ∧ Rel K cx S2 H1 ∧ Keep S S2 H H1 ∧ RepV K H1 d v ∧ (S2 = S1 ∨ ∃ a o, v = .ref a ∧ S1 a = none ∧ H a = none ∧ S2 = su S1 a o) := by
  cases x with
  | d y => exact ⟨y, S1, w, hr1, k1, r.1, .inl rfl⟩
  | vl ds =>
    obtain ⟨⟨a, vs, rfl, h, n, r1⟩, f⟩ := r
    obtain ⟨a', e, n'⟩ := f rfl
    cases e
    refine ⟨.ref a, su S1 a (.lst ds), w a n, hr1.box ⟨vs, h, r1⟩, ⟨fun b o e z => ?_, k1.up⟩, rfl, .inr ⟨a, _, rfl, n, n', rfl⟩⟩
    obtain ⟨h1, h2⟩ := k1.kp b o e z
    refine ⟨h1, ?_⟩
    rw [su_ne (ne_of_none e n')]
    exact h2
  | vd ds =>
    obtain ⟨⟨a, vs, rfl, h, n, r1⟩, f⟩ := r
    obtain ⟨a', e, n'⟩ := f rfl
    cases e
    refine ⟨.ref a, su S1 a (.dic ds), w a n, hr1.box ⟨vs, h, r1⟩, ⟨fun b o e z => ?_, k1.up⟩, rfl, .inr ⟨a, _, rfl, n, n', rfl⟩⟩
    obtain ⟨h1, h2⟩ := k1.kp b o e z
    refine ⟨h1, ?_⟩
    rw [su_ne (ne_of_none e n')]
    exact h2
  | bw _ => exact w.elim
  | fz _ => exact w.elim
  | bd _ => exact w.elim
  | st _ => exact w.elim
theorem snd_consb {a r : R} {e : Expr} {es : List Expr} (ha : PE X e (liftE X.K cx (wpE T c a))) (hb : PA X es (liftA X.K cx (wpE T c r))) (hs : starEach (e :: es) X.env = (false, eval e X.env) :: starEach es X.env) :
    PA X (e :: es) (liftA X.K cx (wpE T c (.consb a r))) :=
  paImp (pa_cons ha hb hs) fun σ H Q ⟨S, σ2, hr, rs, w⟩ => stepE hc hr rs w fun x S1 v H1 hr1 k1 rs1 r1 w => by
    obtain ⟨d, S2, w, hr2, k2, r2, _⟩ := rel_box hc hr1 k1 r1 w
    refine stepA hc hr2 (rs.keep k2 hr) w fun xs S3 vs H3 hr3 k3 rs3 r3 w => ?_
    exact w (v :: vs) H3 hr3 (k2.trans k3) (.cons (RepV.keep (k3.tups hr2) _ _ r2) r3)
theorem map_d {K : Frag} {S : Hs} {H : Hp} : ∀ {ds : List D} {vs : List V}, Paired (RepX K H S) (ds.map Vx.d) vs → RepL K H ds vs
  | [], _, .nil => rfl
  | d :: ds, _, .cons r t => ⟨_, _, rfl, r, map_d t⟩
theorem snd_tup {as : R} {es : List Expr} {x1 : Nat} {pos : Pos} (h : PA X es (liftA X.K cx (wpE T c as))) : PE X (.Tuple es x1 pos) (liftE X.K cx (wpE T c (.tup as))) :=
  peImp (pe_tup h) fun σ H Q ⟨S, σ2, hr, rs, w⟩ => stepA hc hr rs w fun xs S1 vs H1 hr1 k1 rs1 r1 ⟨ds, e, hz, w⟩ => by
    have e := unD_map e
    subst e
    have r := map_d hc r1
    obtain ⟨x, e, q⟩ := w
    cases e
    exact ⟨by rw [← r.length]; exact hz, fin_tup (KVof.of k1 q) hr1 r⟩
theorem snd_lst {as : R} {es : List Expr} {pos : Pos} (h : PA X es (liftA X.K cx (wpE T c as))) : PE X (.List es pos) (liftE X.K cx (wpE T c (.lst as))) :=
  peImp (pe_lst h) fun σ H Q ⟨S, σ2, hr, rs, w⟩ => stepA hc hr rs w fun xs S1 vs H1 hr1 k1 rs1 r1 ⟨ds, e, hz, w⟩ => by
    have e := unD_map e
    subst e
    have r := map_d hc r1
    obtain ⟨x, e, q⟩ := w
    cases e
    exact ⟨by rw [← r.length]; exact hz, fin_vl (KVof.of k1 q) hr1 r⟩
theorem snd_dct {pos : Pos} : PE X (.Dict [] [] pos) (liftE X.K cx (wpE T c .dct)) :=
  peImp pe_dnewK fun σ H Q ⟨S, σ2, hr, rs, w⟩ => fun p n => by
    obtain ⟨x, e, q⟩ := w
    cases e
    exact q _ _ (hr.upd0 (hr.free n) (tupS_new n)) (.new n) ⟨⟨p, [], rfl, upd_same, hr.free n, .nil⟩, fun _ => ⟨p, rfl, n⟩⟩
theorem snd_call1 {o : O1} {a : R} {ea : Expr} {e : Expr} (hp : ∀ t : TA, PA X [ea] t → PE X e (tCB (c1of X.K cx o) t))
    (hs : starEach [ea] X.env = [(false, eval ea X.env)]) (ha : PE X ea (liftE X.K cx (wpE T c a))) : PE X e (liftE X.K cx (wpE T c (.o1 o a))) :=
  peImp (hp _ (pa_cons ha pa_nil hs)) fun σ H Q ⟨S, σ2, hr, rs, w⟩ => stepE hc hr rs w fun x S1 v H1 hr1 k1 rs1 r1 w =>
    ⟨v, rfl, S1, x, hr1, r1.1, op1D_mono (fun z S3 ⟨z', e, q⟩ => by cases e; exact KVof.of k1 q) w⟩
theorem snd_call2 {o : O2} {a b : R} {ea eb : Expr} {e : Expr} (hp : ∀ t : TA, PA X [ea, eb] t → PE X e (tCB (c2of X.K cx o) t))
    (hs : starEach [ea, eb] X.env = (false, eval ea X.env) :: starEach [eb] X.env) (hs2 : starEach [eb] X.env = [(false, eval eb X.env)]) (ha : PE X ea (liftE X.K cx (wpE T c a))) (hb : PE X eb (liftE X.K cx (wpE T c b))) : PE X e (liftE X.K cx (wpE T c (.o2 o a b))) :=
  peImp (hp _ (pa_cons ha (pa_cons hb pa_nil hs2) hs)) fun σ H Q ⟨S, σ2, hr, rs, w⟩ => stepE hc hr rs w fun x S1 v H1 hr1 k1 rs1 r1 w => stepE hc hr1 rs1 w fun y S2 u H2 hr2 k2 rs2 r2 w =>
    ⟨v, u, rfl, S2, x, y, hr2, r1.1.keep k2 hr1, r2.1, op2D_mono (fun z S3 ⟨z', e, q⟩ => by cases e; exact KVof.of (k1.trans k2) q) w⟩
theorem snd_isi {t : Ty} {a : R} {ea et : Expr} {e : Expr} (hp : ∀ t' : TA, PA X [ea, et] t' → PE X e (tCB (fun vs H Q => ∃ v, vs = [v, .ty t.nm] ∧ r1of X.K cx (op1D (.isi t)) v H Q) t'))
    (hs : starEach [ea, et] X.env = (false, eval ea X.env) :: starEach [et] X.env) (hs2 : starEach [et] X.env = [(false, eval et X.env)]) (ha : PE X ea (liftE X.K cx (wpE T c a))) (hb : PE X et (tC (.ty t.nm))) : PE X e (liftE X.K cx (wpE T c (.o1 (.isi t) a))) :=
  peImp (hp _ (pa_cons ha (pa_cons hb pa_nil hs2) hs)) fun σ H Q ⟨S, σ2, hr, rs, w⟩ => stepE hc hr rs w fun x S1 v H1 hr1 k1 rs1 r1 w =>
    ⟨v, rfl, S1, x, hr1, r1.1, op1D_mono (fun z S3 ⟨z', e, q⟩ => by cases e; exact KVof.of k1 q) w⟩
end
section
variable {X : Cx} {T : Tbl} {c : Nat → List Vx → Hs → VK2 → Prop} {cx : Cls2} (hc : CalMono c)
include hc
theorem kT_of {K : Frag} {S S1 S' : Hs} {H H1 : Hp} {Q : Bool → Hp → Prop} {xs : List Vx} (q : kT K cx S H Q xs S') (k : Keep S S1 H H1) : kT K cx S1 H1 Q xs S' :=
  one1_mono (fun x S => tstK_mono fun b S q H' hr' k' => q H' hr' (k.trans k')) q
theorem kT_elim {K : Frag} {S S' : Hs} {H : Hp} {Q : Bool → Hp → Prop} {xs : List Vx} (q : kT K cx S H Q xs S') : ∃ b, xs = [.d (.bl b)] ∧ ∀ H', Rel K cx S' H' → Keep S S' H H' → Q b H' := by
  obtain ⟨x, e, q⟩ := one1_of q
  obtain ⟨b, e', q⟩ := tstK_of q
  subst e e'
  exact ⟨b, rfl, q⟩
theorem tst_val {r : R} {e : Expr} (h : PE X e (liftE X.K cx (wpE T c r))) (he : ∀ whole, isTrue e X.env whole = (do let v ← whole; standAt e.pos; holding [v] (truthy v))) : PT X e (liftT X.K cx (wpE T c r)) :=
  ptImp (pt_val h he) fun σ H Q ⟨S, σ2, hr, rs, w⟩ => ⟨S, σ2, hr, rs, wpE_mono hc w fun xs S1 q => by
    obtain ⟨b, rfl, q⟩ := kT_elim hc q
    refine ⟨_, rfl, fun v H' hr' k r => ?_⟩
    cases r.1
    exact ⟨b, rfl, q H' hr' k⟩⟩
theorem tst_cmp {op : CmpOp} {o : O2} (ho : OpR X (compareOp op) (r2of X.K cx (op2D o))) {a b : R} {ea eb : Expr} {pos : Pos} (hm : behindInMarks op eb = false) (ha : PE X ea (liftE X.K cx (wpE T c a))) (hb : PE X eb (liftE X.K cx (wpE T c b))) :
    PT X (.Compare ea [op] [eb] pos) (liftT X.K cx (wpE T c (.o2 o a b))) := ptImp (pt_cmpR ho ha hb hm) fun σ H Q ⟨S, σ2, hr, rs, w⟩ =>
  stepE hc hr rs w fun x S1 v H1 hr1 k1 rs1 r1 w => stepE hc hr1 rs1 w fun y S2 u H2 hr2 k2 rs2 r2 w =>
    ⟨S2, x, y, hr2, r1.1.keep k2 hr1, r2.1, op2D_mono (fun z S3 q => by
      obtain ⟨b, e, q⟩ := kT_elim hc q
      cases e
      intro v H' hr' k r
      cases r.1
      exact ⟨b, rfl, q H' hr' ((k1.trans k2).trans k)⟩) w⟩
theorem tst_not {a : R} {ea : Expr} {pos : Pos} (ha : PT X ea (liftT X.K cx (wpE T c a))) : PT X (.UnaryOp .Not ea pos) (liftT X.K cx (wpE T c (.not a))) :=
  ptImp (pt_not ha) fun σ H Q ⟨S, σ2, hr, rs, w⟩ => stepT hc hr rs w fun b S1 H1 hr1 k1 rs1 w => w H1 hr1 k1
theorem tst_one {op : BoolOp} {a : R} {ea : Expr} {pos : Pos} (ha : PT X ea (liftT X.K cx (wpE T c a))) : PW X (.BoolOp op [ea] pos) (liftT X.K cx (wpE T c (.one a))) := by
  have i : ∀ σ H Q, liftT X.K cx (wpE T c (.one a)) σ H Q → liftT X.K cx (wpE T c a) σ H Q := fun σ H Q ⟨S, σ2, hr, rs, w⟩ => stepT hc hr rs w fun b S1 H1 hr1 k1 rs1 w => w H1 hr1 k1
  cases op with
  | And => exact pwImp (pw_and1 ha) i
  | Or => exact pwImp (pw_or1 ha) i
theorem tst_and {a r : R} {ea eb : Expr} {er : List Expr} {pos : Pos} (ha : PT X ea (liftT X.K cx (wpE T c a))) (hb : PW X (.BoolOp .And (eb :: er) pos) (liftT X.K cx (wpE T c r))) :
    PW X (.BoolOp .And (ea :: eb :: er) pos) (liftT X.K cx (wpE T c (.and a r))) :=
  pwImp (pw_and ha hb) fun σ H Q ⟨S, σ2, hr, rs, w⟩ => stepT hc hr rs w fun b S1 H1 hr1 k1 rs1 w => by
    cases b with
    | true => exact iteT ⟨S1, σ2, hr1, rs1, wpE_mono hc (w.t rfl) fun xs S' q => kT_of hc q k1⟩
    | false => exact iteF (w.f rfl H1 hr1 k1)
theorem tst_or {a r : R} {ea eb : Expr} {er : List Expr} {pos : Pos} (ha : PT X ea (liftT X.K cx (wpE T c a))) (hb : PW X (.BoolOp .Or (eb :: er) pos) (liftT X.K cx (wpE T c r))) :
    PW X (.BoolOp .Or (ea :: eb :: er) pos) (liftT X.K cx (wpE T c (.or a r))) :=
  pwImp (pw_or ha hb) fun σ H Q ⟨S, σ2, hr, rs, w⟩ => stepT hc hr rs w fun b S1 H1 hr1 k1 rs1 w => by
    cases b with
    | true => exact iteT (w.t rfl H1 hr1 k1)
    | false => exact iteF ⟨S1, σ2, hr1, rs1, wpE_mono hc (w.f rfl) fun xs S' q => kT_of hc q k1⟩
noncomputable def PartOk (X : Cx) (T : Tbl) (c : Nat → List Vx → Hs → VK2 → Prop) (cx : Cls2) (a : R) (e : Option Expr) : Prop :=
  PO X e (fun σ H Q => ∃ S σ2, Rel X.K cx S H ∧ RelX X.K S H σ2 σ ∧ wpE T c a σ2 S (one1 fun l S' => ∃ l', optI a l = some l' ∧ ∀ H', Rel X.K cx S' H' → Keep S S' H H' → Q l' H'))
theorem part_n : PartOk X T c cx .n none := ⟨fun pins s σ H Q I ⟨S, σ2, hr, rs, l', e, w⟩ => (po_none (X := X)).run pins s σ H Q I (by cases e; exact w H hr .refl)⟩
theorem part_e {a : R} {ea : Expr} (hn : a ≠ .n) (ha : PE X ea (liftE X.K cx (wpE T c a))) : PartOk X T c cx a (some ea) :=
  ⟨fun pins s σ H Q I ⟨S, σ2, hr, rs, w⟩ => (po_some ha).run pins s σ H Q I (stepE hc hr rs w fun x S1 v H1 hr1 k1 rs1 r1 ⟨l', e, w⟩ => by
    unfold optI at e
    split at e
    · exact (hn rfl).elim
    · cases e
      cases r1.1
      exact ⟨_, rfl, w H1 hr1 k1⟩
    · cases e)⟩
theorem snd_slc {a lo hi : R} {ea : Expr} {el eh : Option Expr} {p2 pos : Pos} (ha : PE X ea (liftE X.K cx (wpE T c a))) (hl : PartOk X T c cx lo el) (hh : PartOk X T c cx hi eh) :
    PE X (.Subscript ea (.Slice el eh none p2) pos) (liftE X.K cx (wpE T c (.slc a lo hi))) :=
  peImp (pe_slice (slc_ok (cx := cx)) ha hl hh) fun σ H Q ⟨S, σ2, hr, rs, w⟩ => stepE hc hr rs w fun x S1 v H1 hr1 k1 rs1 r1 w => by
    refine ⟨S1, σ2, hr1, rs1, wpE_mono hc w fun ls S2 w => one1_mono (fun l S2 ⟨l', e, w⟩ => ⟨l', e, fun H2 hr2 k2 => ?_⟩) w⟩
    refine ⟨S2, σ2, hr2, rs1.keep k2 hr1, wpE_mono hc w fun us S3 w => one1_mono (fun u S3 ⟨u', e, w⟩ => ⟨u', e, fun H3 hr3 k3 => ?_⟩) w⟩
    exact ⟨S3, x, hr3, (r1.1.keep k2 hr1).keep k3 hr2, view_mono (fun c => slcC_mono fun z S4 ⟨z', e, q⟩ => by cases e; exact KVof.of ((k1.trans k2).trans k3) q) w⟩
theorem lookup_fld {ns : List Str} {fv : List (Str × V)} {k : Nat} {f : Str} {K : Frag} {H : Hp} {fs : List D} {d : D} (nd : ns.Nodup) (hm : fv.map Prod.fst = ns.take fs.length) (hf : ns[k]? = some f) (r : RepL K H fs (fv.map Prod.snd)) (e : fs[k]? = some d) :
    ∃ v, fv.lookup f = some v ∧ RepV K H d v := by
  obtain ⟨v, h1, h2⟩ := r.get e
  refine ⟨v, ?_, h2⟩
  have hk : k < fs.length := (List.getElem?_eq_some_iff.mp e).1
  have h3 : (fv.map Prod.fst)[k]? = some f := by rw [hm, List.getElem?_take_of_lt hk]; exact hf
  clear e r hk
  have nd' : (fv.map Prod.fst).Nodup := by rw [hm]; exact nd.sublist (List.take_sublist _ _)
  clear hm hf nd
  induction fv generalizing k with
  | nil => simp at h1
  | cons p r ih =>
    obtain ⟨g, u⟩ := p
    have nd' : (g :: r.map Prod.fst).Nodup := nd'
    cases k with
    | zero =>
      simp at h1 h3
      subst h1 h3
      simp [List.lookup]
    | succ k =>
      have h1 : (r.map Prod.snd)[k]? = some v := by simpa using h1
      have h3 : (r.map Prod.fst)[k]? = some f := by simpa using h3
      have ne : ¬ f = g := fun z => (List.nodup_cons.mp nd').1 (z ▸ List.mem_of_getElem? h3)
      have hb : (f == g) = false := beq_eq_false_iff_ne.mpr ne
      simp only [List.lookup, hb]
      exact ih h1 h3 (List.nodup_cons.mp nd').2
structure ClsOk (K : Frag) (cx : Cls2) (i : Nat) : Prop where
  cl : Cls K (cx.adr i)
  nd : (cx.lay i).Nodup
  few : (cx.lay i).length ≤ 50
  no : ∀ f ∈ cx.lay i, NoAttr K (cx.adr i) f
theorem snd_fld {o : R} {k ci : Nat} {f : Str} {eo : Expr} {pos : Pos} (ok : ClsOk X.K cx ci) (hf : (cx.lay ci)[k]? = some f) (ho : PE X eo (liftE X.K cx (wpE T c o))) (hb : attributeBase eo f X.env (eval eo X.env) = eval eo X.env) :
    PE X (.Attribute eo f pos) (liftE X.K cx (wpE T c (.fld o ci k))) :=
  peImp (pe_fld ho hb) fun σ H Q ⟨S, σ2, hr, rs, w⟩ => stepE hc hr rs w fun x S1 v H1 hr1 k1 rs1 r1 w => by
    obtain ⟨a, fs, rfl, e, y, ey, z, ez, q⟩ := w
    cases ez
    cases r1.1
    obtain ⟨dx, fv, h1, h2, h3, h4⟩ := hr1 a _ e
    obtain ⟨u, h5, h6⟩ := lookup_fld hc ok.nd h2 hf h4 ey
    exact ⟨a, _, dx, fv, u, rfl, h1, ok.cl, ok.no f (List.mem_of_getElem? hf), h5, fin_d (KVof.of k1 q) hr1 h6⟩
noncomputable def spOf (K : Frag) (cx : Cls2) (cal : Nat → List Vx → Hs → VK2 → Prop) (f np : Nat) : Sp := fun vs H Q _ => vs.length = np ∧ ∃ S xs, Rel K cx S H ∧ Paired (RepX K H S) xs vs ∧ cal f xs S (KVof K cx S H Q)
section
variable {k f np : Nat} {fa C : Addr} {fd : FuncData} {ps : List Str} {x m : Str} {as o : R} {es : List Expr} {e eo : Expr} {p pos apos : Pos}
theorem spOf_of {K : Frag} {S S1 : Hs} {H H1 : Hp} {Q : VK} {xs : List Vx} {vs : List V} {E : XK} (hr1 : Rel K cx S1 H1) (k1 : Keep S S1 H H1) (r1 : Paired (RepX K H1 S1) xs vs) (hl : vs.length = np) (w : c f xs S1 fun r S2 => kE K cx S H Q [r] S2) : spOf K cx c f np (vs ++ []) H1 Q E := by
  rw [List.append_nil]
  exact ⟨hl, S1, xs, hr1, r1, hc _ _ _ _ _ (fun z S3 ⟨z', e, q⟩ => by cases e; exact KVof.of k1 q) w⟩
noncomputable def NumOk (c : Nat → List Vx → Hs → VK2 → Prop) (f np : Nat) : Prop := ∀ xs S Q, c f xs S Q → xs.length = np
theorem snd_call (F : FnOk X.prog X.w X.K X.mg X.base CX0 k fa fd ps (spOf X.K cx c f np)) (hn : NumOk c f np) (hr : Room k X.A) (hg : Gl X x) (hm : X.mg x = some (.ref fa)) (hk : PySem.W.keepIn X.K (.ref fa) = true) (hb : Binds X.K fd ps [])
    (ha : PA X (e :: es) (liftA X.K cx (wpE T c as))) (hdb : (x == ("__debug__" : Str)) = false) (he : starEach (e :: es) X.env = (false, eval e X.env) :: starEach es X.env) (hpl : (backTo pos (starEach es X.env)).any (·.1) = false) :
    PE X (.Call (.Name x p) (e :: es) [] pos) (liftE X.K cx (wpE T c (.call f as))) :=
  peImp (pe_call F hr hg hm hk hb .nil (pass0 (X := X)) ha hdb he hpl) fun σ H Q ⟨S, σ2, hr, rs, w⟩ => stepA hc hr rs w fun xs S1 vs H1 hr1 k1 rs1 r1 w => spOf_of hc hr1 k1 r1 (by rw [← Paired.length r1]; exact hn _ _ _ w) w
theorem snd_call0 (F : FnOk X.prog X.w X.K X.mg X.base CX0 k fa fd ps (spOf X.K cx c f np)) (hn : NumOk c f np) (hr : Room k X.A) (hg : Gl X x) (hm : X.mg x = some (.ref fa)) (hk : PySem.W.keepIn X.K (.ref fa) = true) (hb : Binds X.K fd ps [])
    (ha : PA X [] (liftA X.K cx (wpE T c as))) (hdb : (x == ("__debug__" : Str)) = false) (has : as = .nil) :
    PE X (.Call (.Name x p) [] [] pos) (liftE X.K cx (wpE T c (.call f as))) :=
  peImp (pe_call0 F hr hg hm hk hb .nil (pass0 (X := X)) hdb) fun σ H Q ⟨S, σ2, hr, rs, w⟩ => by
    subst has
    exact spOf_of (E := E0) (vs := []) hc hr .refl .nil (by have := hn _ _ _ w; simpa using this) w
theorem lookup_none {ns : List Str} {fv : List (Str × V)} {m : Str} {n : Nat} (hm : fv.map Prod.fst = ns.take n) (hno : m ∉ ns) : fv.lookup m = none := by
  have h : m ∉ fv.map Prod.fst := fun z => hno (List.mem_of_mem_take (hm ▸ z))
  clear hm
  induction fv with
  | nil => rfl
  | cons q r ih =>
    obtain ⟨g, u⟩ := q
    have h : m ∉ g :: r.map Prod.fst := h
    have hb : (m == g) = false := beq_eq_false_iff_ne.mpr fun z => h (z ▸ List.mem_cons_self)
    simp only [List.lookup, hb]
    exact ih fun z => h (List.mem_cons_of_mem _ z)
theorem snd_meth {pl : Sem Bool} {ci : Nat} (hci : T.fcls f = ci) (hC : cx.adr ci = C) (hcl : Cls X.K C) (hm : Meth X.K C m fa) (hno : m ∉ cx.lay ci) (F : FnOk X.prog X.w X.K X.mg X.base CX0 k fa fd ps (spOf X.K cx c f np)) (hn : NumOk c f np) (hr : Room k X.A) (hb : Binds X.K fd ps [])
    (ho : PE X eo (liftE X.K cx (wpE T c o))) (ha : PA X (e :: es) (liftA X.K cx (wpE T c as)))
    (hst : starEach (e :: es) X.env = (false, eval e X.env) :: starEach es X.env) (hpl : (backTo pos (starEach es X.env)).any (·.1) = false)
    (ht : eval (.Call (.Attribute eo m apos) (e :: es) [] pos) X.env = (do
      let ov ← eval eo X.env
      standAt apos.atName
      let (f, first) ← holding [ov] (getMethod ov m pl)
      callWith pos f first (backTo pos (starEach (e :: es) X.env)) (backToKw pos (keywordEach [] X.env)))) :
    PE X (.Call (.Attribute eo m apos) (e :: es) [] pos) (liftE X.K cx (wpE T c (.meth f o as))) :=
  peImp (pe_meth ho hcl hm F hr hb .nil (pass0 (X := X)) ha hst hpl ht) fun σ H Q ⟨S, σ2, hr, rs, w⟩ => stepE hc hr rs w fun x S1 v H1 hr1 k1 rs1 r1 w => by
    obtain ⟨a, fs, rfl, e, w⟩ := w
    cases r1.1
    rw [hci] at e
    obtain ⟨dx, fv, h1, h2, h3, h4⟩ := hr1 a _ e
    refine ⟨a, dx, fv, rfl, by rw [← hC]; exact h1, lookup_none hc h2 hno, stepA hc hr1 rs1 w fun xs S2 vs H2 hr2 k2 rs2 r2 w => ?_⟩
    exact spOf_of hc hr2 (k1.trans k2) (.cons (r1.1.keep k2 hr1) r2) (by have := hn _ _ _ w; simpa [Paired.length r2] using this) w
theorem snd_meth0 {pl : Sem Bool} {ci : Nat} (hci : T.fcls f = ci) (hC : cx.adr ci = C) (hcl : Cls X.K C) (hm : Meth X.K C m fa) (hno : m ∉ cx.lay ci) (F : FnOk X.prog X.w X.K X.mg X.base CX0 k fa fd ps (spOf X.K cx c f np)) (hn : NumOk c f np) (hr : Room k X.A) (hb : Binds X.K fd ps [])
    (ho : PE X eo (liftE X.K cx (wpE T c o)))
    (ht : eval (.Call (.Attribute eo m apos) [] [] pos) X.env = (do
      let ov ← eval eo X.env
      standAt apos.atName
      let (f, first) ← holding [ov] (getMethod ov m pl)
      callWith pos f first (backTo pos (starEach [] X.env)) (backToKw pos (keywordEach [] X.env)))) :
    PE X (.Call (.Attribute eo m apos) [] [] pos) (liftE X.K cx (wpE T c (.meth f o .nil))) :=
  peImp (pe_meth0 ho hcl hm F hr hb .nil (pass0 (X := X)) ht) fun σ H Q ⟨S, σ2, hr, rs, w⟩ => stepE hc hr rs w fun x S1 v H1 hr1 k1 rs1 r1 w => by
    obtain ⟨a, fs, rfl, e, w⟩ := w
    cases r1.1
    rw [hci] at e
    obtain ⟨dx, fv, h1, h2, h3, h4⟩ := hr1 a _ e
    refine ⟨a, dx, fv, rfl, by rw [← hC]; exact h1, lookup_none hc h2 hno, ?_⟩
    exact spOf_of (E := E0) (vs := [.ref a]) hc hr1 k1 (.cons r1.1 .nil) (by have := hn _ _ _ w; simpa using this) w
theorem rel_made {K : Frag} {S S1 : Hs} {H H1 : Hp} {ci : Nat} {a dx : Addr} (hr1 : Rel K cx S1 H1) (k1 : Keep S S1 H H1) (n : H1 a = none) (nd : H1 dx = none) (ne : dx ≠ a) :
    Rel K cx (su S1 a (.ins ci [])) (upd (upd H1 dx (.own a)) a (.ins (cx.adr ci) dx [])) ∧ Keep S (su S1 a (.ins ci [])) H (upd (upd H1 dx (.own a)) a (.ins (cx.adr ci) dx [])) ∧ Keep S1 S1 H1 (upd (upd H1 dx (.own a)) a (.ins (cx.adr ci) dx [])) := by
  have n2 : upd H1 dx (.own a) a = none := by rw [upd_ne (Ne.symm ne)]; exact n
  have r1 : Rel K cx S1 (upd H1 dx (.own a)) := hr1.upd0 (hr1.free nd) (tupS_new nd)
  have k2 : Keep S1 S1 H1 (upd (upd H1 dx (.own a)) a (.ins (cx.adr ci) dx [])) := (Keep.new nd).trans (Keep.new n2)
  refine ⟨r1.upd1 (tupS_new n2) ⟨dx, [], upd_same, by simp, Nat.zero_le _, rfl⟩, ⟨fun b o e z => ?_, (k1.trans k2).up⟩, k2⟩
  obtain ⟨h1, h2⟩ := k1.kp b o e z
  refine ⟨(k2.kp b o h1 h2).1, ?_⟩
  rw [su_ne (ne_of_none h1 n)]
  exact h2
theorem snd_make {ci : Nat} (hini : T.cini ci = f) (hC : cx.adr ci = C) (M : Mk X.K C fa) (F : FnOk X.prog X.w X.K X.mg X.base CX0 k fa fd ps (spOf X.K cx c f np)) (hn : NumOk c f np) (hr : Room (k + 1) X.A) (hg : Gl X x) (hm : X.mg x = some (.ref C)) (hb : Binds X.K fd ps [])
    (ha : PA X (e :: es) (liftA X.K cx (wpE T c as))) (hdb : (x == ("__debug__" : Str)) = false) (he : starEach (e :: es) X.env = (false, eval e X.env) :: starEach es X.env) (hpl : (backTo pos (starEach es X.env)).any (·.1) = false) :
    PE X (.Call (.Name x p) (e :: es) [] pos) (liftE X.K cx (wpE T c (.make ci as))) :=
  peImp (pe_make M F hr hg hm hb .nil (pass0 (X := X)) ha hdb he hpl) fun σ H Q ⟨S, σ2, hr, rs, w⟩ => stepA hc hr rs w fun xs S1 vs H1 hr1 k1 rs1 r1 w => fun a dx n nd ne => by
    obtain ⟨h1, h2, h3⟩ := rel_made hc (ci := ci) hr1 k1 n nd ne
    rw [hC] at h1 h2 h3
    have w := w a (hr1.free n)
    rw [hini] at w
    rw [List.append_nil]
    have r2 : Paired (RepX X.K (upd (upd H1 dx (.own a)) a (.ins C dx [])) (su S1 a (.ins ci []))) (.d (.ref a) :: xs) (.ref a :: vs) := by
      refine .cons rfl (Paired.mapP r1 fun y v q => ?_)
      have q := RepX.keep h3 hr1 q
      cases y with
      | d y => exact q
      | vl ds => obtain ⟨b, us, e, z, z', q⟩ := q; exact ⟨b, us, e, z, by rw [su_ne (fun e => by subst e; rw [upd_same] at z; cases z)]; exact z', q⟩
      | bw ds => obtain ⟨b, us, e, z, z', q⟩ := q; exact ⟨b, us, e, z, by rw [su_ne (fun e => by subst e; rw [upd_same] at z; cases z)]; exact z', q⟩
      | vd ds => obtain ⟨b, us, e, z, z', q⟩ := q; exact ⟨b, us, e, z, by rw [su_ne (fun e => by subst e; rw [upd_same] at z; cases z)]; exact z', q⟩
      | bd ds => obtain ⟨b, us, e, z, z', q⟩ := q; exact ⟨b, us, e, z, by rw [su_ne (fun e => by subst e; rw [upd_same] at z; cases z)]; exact z', q⟩
      | fz ds =>
        obtain ⟨b, us, e, z, q⟩ := q
        refine ⟨b, us, e, ?_, q⟩
        rcases z with ⟨o, z, z'⟩ | z
        · exact .inl ⟨o, z, by rw [su_ne (fun e => by subst e; rw [upd_same] at z; cases z)]; exact z'⟩
        · exact .inr z
      | st ds => exact q.elim
    refine ⟨by have := hn _ _ _ w; simpa [Paired.length r1] using this, _, _, h1, r2, hc _ _ _ _ _ (fun z S3 ⟨ez, z', e, q⟩ => ?_) w⟩
    subst ez
    cases e
    intro v H' hr' k' r'
    cases r'.1
    refine ⟨rfl, KVof.of (k := h2) q _ _ hr' k' ⟨rfl, fun e => by cases e⟩⟩
theorem paired_snoc {α β : Type} {F : α → β → Prop} {a : α} {b : β} : ∀ {l₁ : List α} {l₂ : List β}, Paired F l₁ l₂ → F a b → Paired F (l₁ ++ [a]) (l₂ ++ [b])
  | _, _, .nil, h => .cons h .nil
  | _, _, .cons p r, h => .cons p (paired_snoc r h)
theorem snd_maken {ci : Nat} (hini : T.cini ci = f) (hC : cx.adr ci = C) (M : Mk X.K C fa) (F : FnOk X.prog X.w X.K X.mg X.base CX0 k fa fd ps (spOf X.K cx c f np)) (hn : NumOk c f np) (hr : Room (k + 1) X.A) (hg : Gl X x) (hm : X.mg x = some (.ref C)) {ds : List Value} (hb : Binds X.K fd ps ds) (hd : Vals [V.non] ds)
    (ha : PA X (e :: es) (liftA X.K cx (wpE T c as))) (hdb : (x == ("__debug__" : Str)) = false) (he : starEach (e :: es) X.env = (false, eval e X.env) :: starEach es X.env) (hpl : (backTo pos (starEach es X.env)).any (·.1) = false) :
    PE X (.Call (.Name x p) (e :: es) [] pos) (liftE X.K cx (wpE T c (.maken ci as))) :=
  peImp (pe_make M F hr hg hm hb hd (pass0 (X := X)) ha hdb he hpl) fun σ H Q ⟨S, σ2, hr, rs, w⟩ => stepA hc hr rs w fun xs S1 vs H1 hr1 k1 rs1 r1 w => fun a dx n nd ne => by
    obtain ⟨h1, h2, h3⟩ := rel_made hc (ci := ci) hr1 k1 n nd ne
    rw [hC] at h1 h2 h3
    have w := w a (hr1.free n)
    rw [hini] at w
    have r2 : Paired (RepX X.K (upd (upd H1 dx (.own a)) a (.ins C dx [])) (su S1 a (.ins ci []))) (.d (.ref a) :: (xs ++ [.d .non])) (.ref a :: (vs ++ [.non])) := by
      refine .cons rfl (paired_snoc hc (Paired.mapP r1 fun y v q => ?_) rfl)
      have q := RepX.keep h3 hr1 q
      cases y with
      | d y => exact q
      | vl ds => obtain ⟨b, us, e, z, z', q⟩ := q; exact ⟨b, us, e, z, by rw [su_ne (fun e => by subst e; rw [upd_same] at z; cases z)]; exact z', q⟩
      | bw ds => obtain ⟨b, us, e, z, z', q⟩ := q; exact ⟨b, us, e, z, by rw [su_ne (fun e => by subst e; rw [upd_same] at z; cases z)]; exact z', q⟩
      | vd ds => obtain ⟨b, us, e, z, z', q⟩ := q; exact ⟨b, us, e, z, by rw [su_ne (fun e => by subst e; rw [upd_same] at z; cases z)]; exact z', q⟩
      | bd ds => obtain ⟨b, us, e, z, z', q⟩ := q; exact ⟨b, us, e, z, by rw [su_ne (fun e => by subst e; rw [upd_same] at z; cases z)]; exact z', q⟩
      | fz ds =>
        obtain ⟨b, us, e, z, q⟩ := q
        refine ⟨b, us, e, ?_, q⟩
        rcases z with ⟨o, z, z'⟩ | z
        · exact .inl ⟨o, z, by rw [su_ne (fun e => by subst e; rw [upd_same] at z; cases z)]; exact z'⟩
        · exact .inr z
      | st ds => exact q.elim
    refine ⟨by have := hn _ _ _ w; simpa [Paired.length r1] using this, _, _, h1, r2, hc _ _ _ _ _ (fun z S3 ⟨ez, z', e, q⟩ => ?_) w⟩
    subst ez
    cases e
    intro v H' hr' k' r'
    cases r'.1
    refine ⟨rfl, KVof.of (k := h2) q _ _ hr' k' ⟨rfl, fun e => by cases e⟩⟩
end
end
theorem dic_of {K : Frag} {cx : Cls2} {H : Hp} {c : Cn} {kvs : List (D × D)} {v : V} (e : dicOf c = some kvs) (h : CnR K cx H c v) : ∃ a ks, v = .ref a ∧ Rd H a (.dK ks) ∧ DicR K H kvs ks := by
  cases c with
  | k kvs' => cases e; obtain ⟨a, ks, h1, h2, h3⟩ := h; exact ⟨a, ks, h1, .inl h2, h3⟩
  | kf kvs' => cases e; obtain ⟨a, ks, o, h1, h2, h3⟩ := h; exact ⟨a, ks, h1, .inr ⟨o, h2⟩, h3⟩
  | _ => cases e
section
variable {X : Cx} {T : Tbl} {c : Nat → List Vx → Hs → VK2 → Prop} {cx : Cls2} (hc : CalMono c)
include hc
theorem get_fin {K : Frag} {S S3 : Hs} {H H3 : Hp} {Q : VK} {kvs : List (D × D)} {ks : List (Key × V)} {ky dz : D} {zv : V} (hr3 : Rel K cx S3 H3) (k3 : Keep S S3 H H3) (hky : keyD ky = true) (rd : DicR K H3 kvs ks) (rz : RepV K H3 dz zv) (q : kE K cx S H Q [.d ((dget kvs ky).getD dz)] S3) :
    Q ((valV ks (keyK ky)).getD zv) H3 := by
  obtain ⟨x, e, q⟩ := q
  cases e
  obtain ⟨g1, g2⟩ := DicR.get hky rd
  cases hq : dget kvs ky with
  | none =>
    rw [hq] at q
    rw [g2 hq]
    exact fin_d (KVof.of k3 q) hr3 rz
  | some dv =>
    rw [hq] at q
    obtain ⟨v, h1, h2⟩ := g1 dv hq
    rw [h1]
    exact fin_d (KVof.of k3 q) hr3 h2
theorem snd_get1 {o k : R} {eo ek : Expr} {apos cpos : Pos} (hu : X.A.units + 1 < cLine) (ho : PE X eo (liftE X.K cx (wpE T c o))) (hk : PE X ek (liftE X.K cx (wpE T c k))) (m : M1 X eo "get" apos ek cpos) :
    PE X (.Call (.Attribute eo "get" apos) [ek] [] cpos) (liftE X.K cx (wpE T c (.get1 o k))) :=
  peImp (pe_dget1 hu ho hk m) fun σ H Q ⟨S, σ2, hr, rs, w⟩ => stepE hc hr rs w fun x S1 v H1 hr1 k1 rs1 r1 ⟨wv, w⟩ => by
    obtain ⟨cn, ⟨kvs, ek⟩, hcn⟩ := view_of hr1 r1.1 wv
    obtain ⟨a, ks, rfl, ha, _⟩ := dic_of ek hcn
    refine ⟨a, rfl, .inl ⟨ks, ha⟩, stepE hc hr1 rs1 w fun y S2 yv H2 hr2 k2 rs2 r2 w => ?_⟩
    obtain ⟨cn, ⟨kvs', ky, ek', rfl, hky, q⟩, hcn⟩ := view_of hr2 (r1.1.keep k2 hr1) w
    obtain ⟨a', ks', e, ha', rd⟩ := dic_of ek' hcn
    cases e
    have ey := key_rel hky r2.1
    subst ey
    exact ⟨valV ks' (keyK ky), .inl ⟨ks', keyK ky, ha', rfl, rfl⟩, get_fin hc hr2 (k1.trans k2) hky rd (dz := .non) rfl q⟩
theorem snd_get2 {o k d : R} {eo ek ed : Expr} {apos cpos : Pos} (hu : X.A.units + 1 < cLine) (ho : PE X eo (liftE X.K cx (wpE T c o))) (hk : PE X ek (liftE X.K cx (wpE T c k))) (hd : PE X ed (liftE X.K cx (wpE T c d))) (m : M2 X eo "get" apos ek ed cpos) :
    PE X (.Call (.Attribute eo "get" apos) [ek, ed] [] cpos) (liftE X.K cx (wpE T c (.get2 o k d))) :=
  peImp (pe_dget2 hu ho hk hd m) fun σ H Q ⟨S, σ2, hr, rs, w⟩ => stepE hc hr rs w fun x S1 v H1 hr1 k1 rs1 r1 ⟨wv, w⟩ => by
    obtain ⟨cn, ⟨kvs, ek⟩, hcn⟩ := view_of hr1 r1.1 wv
    obtain ⟨a, ks, rfl, ha, _⟩ := dic_of ek hcn
    refine ⟨a, rfl, .inl ⟨ks, ha⟩, stepE hc hr1 rs1 w fun y S2 yv H2 hr2 k2 rs2 r2 w => stepE hc hr2 rs2 w fun z S3 zv H3 hr3 k3 rs3 r3 w => ?_⟩
    obtain ⟨cn, ⟨kvs', ky, dz, ek', rfl, rfl, hky, q⟩, hcn⟩ := view_of hr3 ((r1.1.keep k2 hr1).keep k3 hr2) w
    obtain ⟨a', ks', e, ha', rd⟩ := dic_of ek' hcn
    cases e
    have ry := RepV.keep (k3.tups hr2) _ _ r2.1
    have ey := key_rel hky ry
    subst ey
    exact ⟨valV ks' (keyK ky), .inl ⟨ks', keyK ky, ha', rfl, rfl⟩, get_fin hc hr3 ((k1.trans k2).trans k3) hky rd r3.1 q⟩
noncomputable def PrR (K : Frag) (H : Hp) (S : Hs) : List Vx → List (V × V) → Prop
  | [], ps => ps = []
  | x :: y :: r, ps => ∃ u v q, ps = (u, v) :: q ∧ RepX K H S x u ∧ RepX K H S y v ∧ PrR K H S r q
  | _, _ => False
noncomputable def isPr : R → Bool
  | .nil => true
  | .pr _ _ r => isPr r
  | _ => false
noncomputable def prTrs (K : Frag) (cx : Cls2) (T : Tbl) (c : Nat → List Vx → Hs → VK2 → Prop) : R → List (TE × TE)
  | .pr k v r => (liftE K cx (wpE T c k), liftE K cx (wpE T c v)) :: prTrs K cx T c r
  | _ => []
theorem prs_ok {K : Frag} {σ2 : Sl} {σ : L2.St} : ∀ (r : R), isPr r = true → ∀ (S : Hs) (H : Hp) (P : LK2) (Q : List (V × V) → Hp → Prop), Rel K cx S H → RelX K S H σ2 σ → wpE T c r σ2 S P →
    (∀ xs S' ps H', Rel K cx S' H' → Keep S S' H H' → PrR K H' S' xs ps → P xs S' → Q ps H') → tPairs (prTrs K cx T c r) σ H Q
  | .nil, _, S, H, P, Q, hr, rs, w, q => q [] S [] H hr .refl rfl w
  | .pr k v r, h, S, H, P, Q, hr, rs, w, q => stepE hc hr rs w fun x S1 xv H1 hr1 k1 rs1 r1 w => stepE hc hr1 rs1 w fun y S2 yv H2 hr2 k2 rs2 r2 w => by
    obtain ⟨d, S3, w, hr3, k3, rd, _⟩ := rel_box hc hr2 k2 r2 w
    refine prs_ok r h S3 H2 _ _ hr3 (rs1.keep k3 hr1) w fun xs S' ps H' hr' k' pr p => q (x :: .d d :: xs) S' _ H' hr' ((k1.trans k3).trans k') ⟨xv, yv, ps, rfl, (r1.1.keep k3 hr1).keep k' hr3, RepV.keep (k'.tups hr3) _ _ rd, pr⟩ p
theorem prs_dic {K : Frag} {H : Hp} {S : Hs} : ∀ (n : Nat) (xs : List Vx) (ps : List (V × V)) (kvs : List (D × D)), xs.length ≤ n → PrR K H S xs ps → prsOf xs = some kvs → ∃ ks : List (Key × V), ps = ks.map (fun kv => (kV kv.1, kv.2)) ∧ DicR K H kvs ks
  | _, [], ps, kvs, _, pr, e => by
    cases e
    have pr : ps = [] := pr
    subst pr
    exact ⟨[], rfl, .nil⟩
  | _, [x], ps, kvs, _, pr, e => by cases pr
  | 0, x :: y :: r, ps, kvs, hl, pr, e => by simp at hl
  | n + 1, x :: y :: r, ps, kvs, hl, pr, e => by
    obtain ⟨u, v, q, rfl, ru, rv, pr⟩ := pr
    cases x with
    | d k =>
      cases y with
      | d z =>
        have e : (match keyD k, prsOf r with | true, some kvs => some ((k, z) :: kvs) | _, _ => none) = some kvs := e
        split at e
        · rename_i es hk he
          cases e
          obtain ⟨ks, rfl, rr⟩ := prs_dic n r q es (by simp at hl; omega) pr he
          have ek := key_rel hk ru
          subst ek
          exact ⟨(keyK k, v) :: ks, rfl, .cons ⟨keyR_mk hk, rv⟩ rr⟩
        · cases e
      | _ => cases e
    | _ => cases e
theorem mrg_rel {K : Frag} {H : Hp} : ∀ {more : List (D × D)} {ms : List (Key × V)} {kvs : List (D × D)} {ks : List (Key × V)}, (∀ p ∈ more, keyD p.1 = true) → DicR K H more ms → DicR K H kvs ks → DicR K H (mrgD kvs more) (mergeK ks ms)
  | [], _, kvs, ks, _, .nil, r => r
  | p :: more, b :: bs, kvs, ks, hk, .cons h t, r => by
    have e := (KeyR.of h.1).2
    show DicR K H (mrgD (dput kvs p.1 p.2) more) (mergeK (putK ks b.1 b.2) bs)
    refine mrg_rel (more := more) (fun q hq => hk q (List.mem_cons_of_mem _ hq)) t ?_
    rw [e]
    exact r.put (hk p List.mem_cons_self) h.2
theorem prs_key : ∀ (n : Nat) (xs : List Vx) (kvs : List (D × D)), xs.length ≤ n → prsOf xs = some kvs → ∀ p ∈ kvs, keyD p.1 = true
  | _, [], kvs, _, e => by cases e; simp
  | _, [x], kvs, _, e => by cases x <;> cases e
  | 0, x :: y :: r, kvs, hl, e => by simp at hl
  | n + 1, x :: y :: r, kvs, hl, e => by
    cases x with
    | d k =>
      cases y with
      | d z =>
        have e : (match keyD k, prsOf r with | true, some kvs => some ((k, z) :: kvs) | _, _ => none) = some kvs := e
        split at e
        · rename_i es hk he
          cases e
          intro p hp
          rcases List.mem_cons.mp hp with rfl | hp
          · exact hk
          · exact prs_key n r es (by simp at hl; omega) he p hp
        · cases e
      | _ => cases e
    | _ => cases e
theorem snd_dctp {ps : R} {keys : List (Option Expr)} {values : List Expr} {pos : Pos} (hp : isPr ps = true) (h : PPs X pos keys values (prTrs X.K cx T c ps)) (hall : keys.all (·.isSome) = true) (hl : keys.length = values.length) (h0 : keys ≠ []) (h15 : keys.length ≤ 15) :
    PE X (.Dict keys values pos) (liftE X.K cx (wpE T c (.dctp ps))) :=
  peImp (pe_disp h hall hl h0 h15) fun σ H Q ⟨S, σ2, hr, rs, w⟩ => fun p n => by
    have k0 : Keep S S H (upd H p (.dK [])) := Keep.new n
    have hr0 : Rel X.K cx S (upd H p (.dK [])) := hr.upd0 (hr.free n) (tupS_new n)
    refine prs_ok hc ps hp S _ _ _ hr0 (rs.keep k0 hr) w fun xs S1 vs H1 hr1 k1 pr ⟨kvs, e, hz, q⟩ => ?_
    obtain ⟨hp1, sp1⟩ := k1.kp p _ upd_same (hr.free n)
    obtain ⟨ks, rfl, rd⟩ := prs_dic hc _ xs vs kvs (Nat.le_refl _) pr e
    obtain ⟨x, ex, q⟩ := q
    cases ex
    have t : TupS X.K H1 (upd H1 p (.dK (mergeK [] ks))) := tupS_upd fun o e => by rw [hp1] at e; cases e; rfl
    refine ⟨hp1, ks, rfl, by rw [← DicR.length rd]; exact hz, q _ _ (hr1.upd0 sp1 t) ⟨fun b o e' nb => ?_, fun b e' => ?_⟩ ⟨⟨p, _, rfl, upd_same, sp1, (mrg_rel hc (prs_key hc _ xs kvs (Nat.le_refl _) e) rd .nil).keep t⟩, fun _ => ⟨p, rfl, n⟩⟩⟩
    · have ne : b ≠ p := fun z => by subst z; rw [n] at e'; cases e'
      obtain ⟨g1, g2⟩ := (k0.trans k1).kp b o e' nb
      exact ⟨by rw [upd_ne ne]; exact g1, g2⟩
    · by_cases ne : b = p
      · subst ne; exact n
      · rw [upd_ne ne] at e'
        exact (k0.trans k1).up b e'
end
section
variable {X : Cx} {cx : Cls2}
theorem pairs_refs0 {K : Frag} {H : Hp} {ps : List (Int × Int)} {vs : List V} (h : Paired (fun (p : Int × Int) (v : V) => ∃ t, v = .ref t ∧ SqT K H t [.int p.1, .int p.2]) ps vs) :
    ∃ as : List Addr, vs = as.map V.ref ∧ Paired (fun (t : Addr) (kv : Key × V) => SqT K H t [kV kv.1, kv.2]) as (ps.map fun p => ((.inl p.1 : Key), V.int p.2)) := by
  induction h with
  | nil => exact ⟨[], rfl, .nil⟩
  | cons h _ ih =>
    obtain ⟨t, rfl, q⟩ := h
    obtain ⟨as, rfl, q'⟩ := ih
    exact ⟨t :: as, rfl, .cons q q'⟩
theorem dic_prs0 {K : Frag} {H : Hp} : ∀ ps : List (Int × Int), DicR K H (ps.map fun p => (D.int p.1, D.int p.2)) (ps.map fun p => ((.inl p.1 : Key), V.int p.2))
  | [] => .nil
  | _ :: ps => .cons ⟨rfl, rfl⟩ (dic_prs0 ps)
theorem mrg_rel0 {K : Frag} {H : Hp} : ∀ {more : List (D × D)} {ms : List (Key × V)} {kvs : List (D × D)} {ks : List (Key × V)}, (∀ p ∈ more, keyD p.1 = true) → DicR K H more ms → DicR K H kvs ks → DicR K H (mrgD kvs more) (mergeK ks ms)
  | [], _, kvs, ks, _, .nil, r => r
  | p :: more, b :: bs, kvs, ks, hk, .cons h t, r => by
    have e := (KeyR.of h.1).2
    show DicR K H (mrgD (dput kvs p.1 p.2) more) (mergeK (putK ks b.1 b.2) bs)
    refine mrg_rel0 (more := more) (fun q hq => hk q (List.mem_cons_of_mem _ hq)) t ?_
    rw [e]
    exact r.put (hk p List.mem_cons_self) h.2
theorem call1_dictP (hcalm : X.calm = true) : CallR X (.type "dict") (c1of X.K cx .dictP) := by
  intro pins s σ H xs us Q I r w
  obtain ⟨v, rfl, S, a, hr, ra, w⟩ := w
  obtain ⟨c, w, hc⟩ := view_of hr ra w
  obtain ⟨ps, rfl, w⟩ := w
  obtain ⟨p, vs, rfl, hp, r1⟩ := hc
  obtain ⟨as, rfl, pa⟩ := pairs_refs0 (reps_pairs r1)
  have hk : ∀ q ∈ (ps.map fun p => (D.int p.1, D.int p.2)), keyD q.1 = true := fun q hq => by
    obtain ⟨z, _, rfl⟩ := List.mem_map.mp hq; rfl
  exact call_dictP hcalm pins s σ H _ us Q I r ⟨p, as, ps.map fun p => ((.inl p.1 : Key), V.int p.2), rfl, SqL.of hp, pa, fun q hq =>
    w _ _ (hr.upd0 (hr.free hq) (tupS_new hq)) (.new hq) ⟨⟨q, _, rfl, upd_same, hr.free hq, (mrg_rel0 hk (dic_prs0 ps) .nil).keep (tupS_new hq)⟩, fun _ => ⟨q, rfl, hq⟩⟩⟩
end
theorem mout_rel {K : Frag} {cx : Cls2} {S : Hs} {H H' : Hp} {a : Addr} {c' : Cn} {o' ob : O} (hr : Rel K cx S H) (e : S a = some ob) (m : MOut K cx H a c' H') (ho : c'.o = some o') : Rel K cx (su S a o') H' ∧ Keep S (su S a o') H H' := by
  obtain ⟨h', rfl, hc, hs⟩ := m
  refine ⟨hr.upd1 (tupS_upd hs) ?_, ⟨fun b o z n => ?_, fun b z => ?_⟩⟩
  · cases c' with
    | l ds => cases ho; obtain ⟨p, vs, e, h, r⟩ := hc; cases e; exact ⟨vs, h, r⟩
    | k ds => cases ho; obtain ⟨p, vs, e, h, r⟩ := hc; cases e; exact ⟨vs, h, r⟩
    | kn ds => cases ho; obtain ⟨p, vs, e, h, r⟩ := hc; cases e; exact ⟨vs, h, r⟩
    | _ => cases ho
  · have ne : b ≠ a := fun z => by subst z; rw [e] at n; cases n
    exact ⟨by rw [upd_ne ne]; exact z, by rw [su_ne ne]; exact n⟩
  · by_cases ne : b = a
    · subst ne; rw [upd_same] at z; cases z
    · rw [upd_ne ne] at z; exact z
section
variable {X : Cx} {T : Tbl} {c : Nat → List Vx → Hs → VK2 → Prop} {cx : Cls2} (hc : CalMono c)
include hc
theorem snd_hm {m : M} {o as : R} {eo e : Expr} {es : List Expr} (hp : ∀ to t, PE X eo to → PA X es t → PE X e (tBM X.K "list" (mOf X.K cx m) to t)) (ho : PE X eo (liftE X.K cx (wpE T c o))) (ha : PA X es (liftA X.K cx (wpE T c as))) :
    PE X e (liftE X.K cx (wpE T c (.hm m o as))) :=
  peImp (hp _ _ ho ha) fun σ H Q ⟨S, σ2, hr, rs, w⟩ => stepE hc hr rs w fun x S0 v H1 hr0 k0 rs0 r0 w => by
    obtain ⟨dd, S1, ⟨a, ds, ex, ed, w⟩, hr1, k1, r1, _⟩ := rel_box hc hr0 k0 r0 w
    subst ex
    cases r1
    have rs1 := rs.keep k1 hr
    obtain ⟨vs0, h0, _⟩ := hr1 a _ ed
    refine ⟨.inl ⟨rfl, _, SqL.of h0⟩, stepA hc hr1 rs1 w fun xs S2 vs H2 hr2 k2 rs2 r2 ⟨ob, e2, w⟩ => ?_⟩
    have z := hr2 a ob e2
    have hcn : CnR X.K cx H2 ob.cn (.ref a) := by
      cases ob with
      | lst ds => obtain ⟨us, h, r⟩ := z; exact ⟨a, us, rfl, h, r⟩
      | dic ds => obtain ⟨us, h, r⟩ := z; exact ⟨a, us, rfl, h, r⟩
      | fdc ds y => obtain ⟨h, o, ks, e1, r⟩ := z; subst e1; exact ⟨a, ks, o, rfl, h, r⟩
      | dn ds => obtain ⟨us, h, r⟩ := z; exact ⟨a, us, rfl, h, r⟩
      | fdn ds y ks => obtain ⟨h, o, e1, r⟩ := z; subst e1; exact ⟨a, ks, o, rfl, h, r⟩
      | ins ci fs => exact ⟨a, rfl, z⟩
    refine ⟨S2, ob.cn, a, xs, hr2, rfl, hcn, r2, mutC_mono (fun c' r ⟨o', ho', x, e, q⟩ H' v' mo rv => ?_) w⟩
    cases e
    obtain ⟨h1, h2⟩ := mout_rel hr2 e2 mo ho'
    exact KVof.of (k1.trans k2) q _ _ h1 h2 ⟨rv, fun e => by cases e⟩
omit hc in
theorem DicR.drop {K : Frag} {H : Hp} {x : D} (hx : keyD x = true) : ∀ {kvs : List (D × D)} {ks : List (Key × V)}, DicR K H kvs ks → DicR K H (ddrop kvs x) (dropK ks (keyK x))
  | _, _, .nil => .nil
  | (k, y) :: r, (k', v) :: r', .cons h t => by
    have ih := DicR.drop hx t
    obtain ⟨hk, hv⟩ := h
    obtain ⟨h1, h2⟩ := KeyR.of hk
    have e : eqB k x = decide (keyK k = keyK x) := eqB_key h1 hx
    have h2 : k' = keyK k := h2
    unfold ddrop dropK at ih ⊢
    rw [List.filter_cons, List.filter_cons]
    by_cases q : keyK k = keyK x
    · rw [if_neg (by show ¬ (!eqB k x) = true; rw [e, decide_eq_true q]; decide), if_neg (by show ¬ decide (k' ≠ keyK x) = true; rw [decide_eq_true_eq]; exact fun z => z (h2.trans q))]
      exact ih
    · rw [if_pos (by show (!eqB k x) = true; rw [e, decide_eq_false q]; rfl), if_pos (by show decide (k' ≠ keyK x) = true; rw [decide_eq_true_eq]; exact fun z => q (h2.symm.trans z))]
      exact .cons ⟨hk, hv⟩ ih
theorem snd_dpop {o k : R} {eo ek : Expr} {apos cpos : Pos} (ho : PE X eo (liftE X.K cx (wpE T c o))) (hk : PE X ek (liftE X.K cx (wpE T c k))) (m : M1 X eo "pop" apos ek cpos) :
    PE X (.Call (.Attribute eo "pop" apos) [ek] [] cpos) (liftE X.K cx (wpE T c (.dpop o k))) :=
  peImp (pe_dpop1 ho hk m) fun σ H Q ⟨S, σ2, hr, rs, w⟩ => stepE hc hr rs w fun x S1 v H1 hr1 k1 rs1 r1 ⟨a, kvs0, ex, ea, w⟩ => by
    subst ex
    cases r1.1
    obtain ⟨ks0, h0, _⟩ := hr1 a _ ea
    refine ⟨a, rfl, .inl ⟨ks0, .inl h0⟩, stepE hc hr1 rs1 w fun y S2 yv H2 hr2 k2 rs2 r2 ⟨kvs, ky, dv, ey, hky, e2, hg, q⟩ => ?_⟩
    subst ey
    obtain ⟨ks, h2, rd⟩ := hr2 a _ e2
    have ey := key_rel hky r2.1
    subst ey
    obtain ⟨vv, hv, rv⟩ := (DicR.get hky rd).1 dv hg
    refine ⟨ks, keyK ky, vv, h2, rfl, hv, ?_⟩
    have mo : MOut X.K cx H2 a (.k (ddrop kvs ky)) (upd H2 a (.dK (dropK ks (keyK ky)))) := mout_k h2 (DicR.drop hky rd)
    obtain ⟨h3, h4⟩ := mout_rel hr2 e2 mo rfl
    obtain ⟨x, e, q⟩ := q
    cases e
    exact KVof.of (k1.trans k2) q _ _ h3 h4 ⟨RepV.keep (dic_tups h2) _ _ rv, fun e => by cases e⟩
theorem snd_hm0 {m : M} {o : R} {eo e : Expr} (hp : ∀ to, PE X eo to → PE X e (tBM0 X.K "list" (mOf X.K cx m) to)) (ho : PE X eo (liftE X.K cx (wpE T c o))) :
    PE X e (liftE X.K cx (wpE T c (.hm m o .nil))) :=
  peImp (hp _ ho) fun σ H Q ⟨S, σ2, hr, rs, w⟩ => stepE hc hr rs w fun x S0 v H1 hr0 k0 rs0 r9 w => by
    obtain ⟨dd, S1, ⟨a, ds, ex, ed, w⟩, hr1, k1, r1, _⟩ := rel_box hc hr0 k0 r9 w
    subst ex
    cases r1
    obtain ⟨vs0, h0, r0⟩ := hr1 a _ ed
    obtain ⟨ob, e2, w⟩ := w
    rw [ed] at e2; cases e2
    refine ⟨.inl ⟨rfl, _, SqL.of h0⟩, S1, .l ds, a, [], hr1, rfl, ⟨a, vs0, rfl, h0, r0⟩, .nil, mutC_mono (fun c' r ⟨o', ho', x, e, q⟩ H' v' mo rv => ?_) w⟩
    cases e
    obtain ⟨h1, h2⟩ := mout_rel hr1 ed mo ho'
    exact KVof.of k1 q _ _ h1 h2 ⟨rv, fun e => by cases e⟩
end
noncomputable def OwnA (σ2 : Sl) (σ : L2.St) (b : Addr) : Prop := ∃ (i : Nat) (x : Vx), σ2[i]? = some (some x) ∧ own x = true ∧ σ[i]? = some (some (.ref b))
noncomputable def lentB : Vx → Bool
  | .vl _ => true
  | .bw _ => true
  | _ => false
noncomputable def srcA : R → Sl → L2.St → Addr → Prop
  | .itv i, σ2, σ, b => ∃ x : Vx, σ2[i]? = some (some x) ∧ lentB x = true ∧ σ[i]? = some (some (.ref b))
  | .enu a, σ2, σ, b => srcA a σ2 σ b
  | .zip a a', σ2, σ, b => srcA a σ2 σ b ∨ srcA a' σ2 σ b
  | _, _, _, _ => False
section
variable (K : Frag) (cx : Cls2)
noncomputable def Later (S1 : Hs) (H1 : Hp) (ok : Sl → Hs → Prop) (G : Hs → Hp → Prop) (P : Addr → Prop) : Prop :=
  ∀ Pz : Addr → Prop, (∀ b, S1 b = none → H1 b ≠ none → P b → Pz b) → ∀ S H σ2, Rel K cx S H → (∀ b, Pz b → S b = none ∧ H b = H1 b) → ok σ2 S → G S H
noncomputable def ItG (J : It) (items : List D) (S : Hs) (H : Hp) : Prop := ∀ i : Nat, (∀ d, items[i]? = some d → J.go i H ∧ ∀ x H', J.yld i H x H' → Rel K cx S H' ∧ Keep S S H H' ∧ RepV K H' d x) ∧ (items.length = i → J.stop i H)
noncomputable def liftI (it : R) (w : WI) : TI := fun σ H R => ∃ S σ2, Rel K cx S H ∧ RelX K S H σ2 σ ∧ w σ2 S fun J2 S1 => ∀ J H1, Rel K cx S1 H1 → Keep S S1 H H1 → Later K cx S1 H1 J2.ok (ItG K cx J J2.items) (fun b => OwnA σ2 σ b → srcA it σ2 σ b) → R J H1
noncomputable def SrcL (S1 : Hs) (H1 : Hp) (J2 : It2) (P : Addr → Prop) (a : Addr) : Prop := J2.tu = false ∧ (∃ vs, SqL K H1 a vs) ∧ Later K cx S1 H1 J2.ok (fun _ H => ∃ vs, SqL K H a vs ∧ RepL K H J2.items vs) P
noncomputable def SrcT (S1 : Hs) (H1 : Hp) (J2 : It2) (P : Addr → Prop) (a : Addr) : Prop := J2.tu = true ∧ (∃ vs, SqT K H1 a vs) ∧ Later K cx S1 H1 J2.ok (fun _ H => ∃ vs, SqT K H a vs ∧ RepL K H J2.items vs) P
noncomputable def liftSrc (it : R) (w : WI) : TE := fun σ H Q => ∃ S σ2, Rel K cx S H ∧ RelX K S H σ2 σ ∧ w σ2 S fun J2 S1 => ∀ a H1, Rel K cx S1 H1 → Keep S S1 H H1 →
  (SrcL K cx S1 H1 J2 (fun b => OwnA σ2 σ b → srcA it σ2 σ b) a ∨ SrcT K cx S1 H1 J2 (fun b => OwnA σ2 σ b → srcA it σ2 σ b) a) → Q (.ref a) H1
end
section
variable {K : Frag} {cx : Cls2} {S S1 : Hs} {H H1 : Hp} {σ2 : Sl} {σ : L2.St}
theorem ownA_not (rs : RelX K S H σ2 σ) {b : Addr} (h : OwnA σ2 σ b) : ∃ o, H b = some o ∧ seqish o = false := by
  obtain ⟨i, x, e, ho, e2⟩ := h
  obtain ⟨v, e3, r⟩ := rs.2 i x e
  rw [e2] at e3; cases e3
  cases x with
  | vl ds => obtain ⟨a, vs, e, h, _⟩ := r; cases e; exact ⟨_, h, rfl⟩
  | vd ds => obtain ⟨a, vs, e, h, _⟩ := r; cases e; exact ⟨_, h, rfl⟩
  | _ => cases ho
theorem later_tup (hr1 : Rel K cx S1 H1) (rs1 : RelX K S1 H1 σ2 σ) {P Pz : Addr → Prop} (hP : ∀ b, ¬ OwnA σ2 σ b → P b) (hz : ∀ b, S1 b = none → H1 b ≠ none → P b → Pz b) {H' : Hp} {S' : Hs} (k : ∀ b, Pz b → S' b = none ∧ H' b = H1 b) : TupS K H1 H' := by
  have key : ∀ t o, H1 t = some o → seqish o = true → H' t = some o := fun t o e q => by
    refine ((k t (hz t ?_ (by rw [e]; simp) (hP t fun z => ?_))).2).trans e
    · cases z : S1 t with
      | none => rfl
      | some u =>
        obtain ⟨h, h1, h2⟩ := (hr1 t u z).some
        rw [e] at h1; cases h1
        rw [q] at h2; cases h2
    · obtain ⟨o', h1, h2⟩ := ownA_not rs1 z
      rw [e] at h1; cases h1
      rw [q] at h2; cases h2
  refine ⟨fun t vs hs => ?_, fun t vs ⟨o, hs, hd⟩ => ⟨o, key _ _ hs rfl, hd⟩⟩
  rcases hs with (hs | ⟨o, hs⟩) | hs
  · exact .inl (.inl (key _ _ hs rfl))
  · exact .inl (.inr ⟨o, key _ _ hs rfl⟩)
  · exact .inr hs
theorem src_of {it : R} {l : Bool} {x : Vx} {v : V} {Q : V → Hp → Prop} {H0 : Hp} {S0 : Hs} (rs0 : RelX K S0 H0 σ2 σ) (hr1 : Rel K cx S1 H1) (k1 : Keep S0 S1 H0 H1) (rs1 : RelX K S1 H1 σ2 σ) (r1 : RepX K H1 S1 x v)
    (hown : ∀ a, v = .ref a → lentB x = true → OwnA σ2 σ a → srcA it σ2 σ a)
    (w : srcX l x S1 fun J2 S2 => ∀ a H2, Rel K cx S2 H2 → Keep S0 S2 H0 H2 → (SrcL K cx S2 H2 J2 (fun b => OwnA σ2 σ b → srcA it σ2 σ b) a ∨ SrcT K cx S2 H2 J2 (fun b => OwnA σ2 σ b → srcA it σ2 σ b) a) → Q (.ref a) H2) : Q v H1 := by
  have hP : ∀ b, ¬ OwnA σ2 σ b → (OwnA σ2 σ b → srcA it σ2 σ b) := fun b h z => (h z).elim
  have lst : ∀ {a : Addr} {vs : List V} {ds : List D}, H1 a = some (.lst vs) → S1 a = none → RepL K H1 ds vs → (OwnA σ2 σ a → srcA it σ2 σ a) → SrcL K cx S1 H1 ⟨ds, fun _ _ => True, false⟩ (fun b => OwnA σ2 σ b → srcA it σ2 σ b) a :=
    fun {a vs ds} h n r p => ⟨rfl, ⟨vs, SqL.of h⟩, fun Pz hz S H σ' hr k _ => ⟨vs, SqL.of ((k a (hz a n (by rw [h]; simp) p)).2.trans h), r.keep (later_tup hr1 rs1 hP hz k)⟩⟩
  unfold srcX at w
  split at w
  · obtain ⟨t, vs, rfl, h, r⟩ := r1
    exact w t H1 hr1 k1 (.inr ⟨rfl, ⟨vs, h⟩, fun Pz hz S H σ' hr k _ => ⟨vs, (later_tup hr1 rs1 hP hz k).1 _ _ h, r.keep (later_tup hr1 rs1 hP hz k)⟩⟩)
  · obtain ⟨t, vs, rfl, h, r⟩ := r1
    exact w t H1 hr1 k1 (.inr ⟨rfl, ⟨vs, h.t⟩, fun Pz hz S H σ' hr k _ => ⟨vs, (later_tup hr1 rs1 hP hz k).1 _ _ h.t, r.keep (later_tup hr1 rs1 hP hz k)⟩⟩)
  · cases r1
    obtain ⟨ds, e, w⟩ := w
    obtain ⟨vs, h, _⟩ := hr1 _ _ e
    exact w _ H1 hr1 k1 (.inl ⟨rfl, ⟨vs, SqL.of h⟩, fun Pz hz S H σ' hr k ok => by obtain ⟨vs', h', r'⟩ := hr _ _ ok; exact ⟨vs', SqL.of h', r'⟩⟩)
  · obtain ⟨a, vs, rfl, h, n, r⟩ := r1
    exact w a H1 hr1 k1 (.inl (lst h n r (hown a rfl rfl)))
  · obtain ⟨a, vs, rfl, h, n, r⟩ := r1
    exact w a H1 hr1 k1 (.inl (lst h n r (hown a rfl rfl)))
  · obtain ⟨a, vs, rfl, h, r⟩ := r1
    refine w a H1 hr1 k1 (.inl ⟨rfl, ⟨vs, fz_sql h⟩, fun Pz hz S H σ' hr k _ => ⟨vs, ?_, r.keep (later_tup hr1 rs1 hP hz k)⟩⟩)
    rcases h with ⟨o, h, n⟩ | h
    · refine .inl (.inr ⟨o, (k a (hz a n (by rw [h]; simp) fun z => ?_)).2.trans h⟩)
      obtain ⟨o', h1, h2⟩ := ownA_not rs1 z
      rw [h] at h1; cases h1
      cases h2
    · exact sqL_none h
  · exact w.elim
end
section
variable {X : Cx} {T : Tbl} {c : Nat → List Vx → Hs → VK2 → Prop} {cx : Cls2} (hc : CalMono c)
include hc
theorem src_v {i : Nat} {x : Str} {pos : Pos} (hN : X.N[i]? = some x) (hv : Vis X.env.scope x) (h1 : (x == ("__debug__" : Str)) = false) (h2 : (x == ("__classdict__" : Str)) = false) : PE X (.Name x pos) (liftSrc X.K cx (.itv i) (wpI T c (.itv i))) :=
  peImp (pe_var hN hv h1 h2) fun σ H Q ⟨S, σ2, hr, rs, x, e, w⟩ => by
    obtain ⟨v, h1, h2⟩ := rs.2 i x e
    exact ⟨v, h1, src_of (it := .itv i) rs hr .refl rs h2 (fun a ea hl _ => ⟨x, e, hl, by rw [h1, ea]⟩) w⟩
theorem src_e {a : R} {ea : Expr} (ha : PE X ea (liftE X.K cx (wpE T c a))) : PE X ea (liftSrc X.K cx (.ite a) (wpI T c (.ite a))) :=
  peImp ha fun σ H Q ⟨S, σ2, hr, rs, w⟩ => stepE hc hr rs w fun x S1 v H1 hr1 k1 rs1 r1 w => by
    refine src_of rs hr1 k1 rs1 r1.1 (fun a ea hl ho => ?_) w
    cases x with
    | vl ds =>
      obtain ⟨a', e, n⟩ := r1.2 rfl
      rw [ea] at e; cases e
      obtain ⟨o, h1, _⟩ := ownA_not rs ho
      rw [n] at h1; cases h1
    | bw ds => exact w.elim
    | _ => cases hl
noncomputable def iAny (K : Frag) (tl : TE) : TI := fun σ H R => tl σ H fun x H1 => ∃ a, x = .ref a ∧ (((∃ xs, SqL K H1 a xs) ∧ R (Itl K a) H1) ∨ ((∃ xs, SqT K H1 a xs) ∧ R (Itt K a) H1))
omit hc in
theorem pi_any {tg l : Expr} {tl : TE} (hl : PE X l tl) : PI X tg l (iAny X.K tl) := by
  refine ⟨fun pins s σ H R I h => ?_⟩
  refine thn (hl.run pins s σ H _ I h) fun v s1 ⟨x, H1, I1, r1, q1⟩ => ?_
  obtain ⟨a, e, q⟩ := q1
  subst e
  cases r1
  rcases q with ⟨⟨xs, hq⟩, q⟩ | ⟨⟨xs, hq⟩, q⟩
  · obtain ⟨its, rv, p, hz⟩ := I1.list hq
    refine wpAny_pyIter_list p.isList ?_
    refine ⟨s1.heap.objs.size, [s1.heap.objs.size], _, _, H1, rfl, I1.kept (t' := s1.toks) fun b o e => Heap.get?_push_of_some _ e, turn_list a _, ⟨_, Heap.get?_push_size _ rfl, rfl, rfl⟩, fun b hb => ?_, q⟩
    have e : b = s1.heap.objs.size := by simpa using hb
    subst e
    exact I1.fpOk (Nat.le_refl _) (I1.hok.fresh (Nat.le_refl _))
  · obtain ⟨its, rv, p, hz⟩ := I1.tuple hq
    refine wpAny_pyIter_tuple (show s1.heap.IsTuple a its.toArray from p) ?_
    refine ⟨s1.heap.objs.size, [s1.heap.objs.size], _, _, H1, rfl, I1.kept (t' := s1.toks) fun b o e => Heap.get?_push_of_some _ e, turn_tuple a _, ⟨_, Heap.get?_push_size _ rfl, rfl, rfl⟩, fun b hb => ?_, q⟩
    have e : b = s1.heap.objs.size := by simpa using hb
    subst e
    exact I1.fpOk (Nat.le_refl _) (I1.hok.fresh (Nat.le_refl _))
theorem piImp {tg e : Expr} {t t' : TI} (h : PI X tg e t) (i : ∀ σ H R, t' σ H R → t σ H R) : PI X tg e t' := ⟨fun pins s σ H R I w => h.run pins s σ H R I (i _ _ _ w)⟩
theorem walk_src {it : R} {tg e : Expr} (h : PE X e (liftSrc X.K cx it (wpI T c it))) : PI X tg e (liftI X.K cx it (wpI T c it)) :=
  piImp hc (pi_any h) fun σ H R ⟨S, σ2, hr, rs, w⟩ => ⟨S, σ2, hr, rs, wpI_mono hc w fun J2 S1 q a H1 hr1 k1 src => ⟨a, rfl, by
    rcases src with ⟨_, ⟨vs, h⟩, lt⟩ | ⟨_, ⟨vs, h⟩, lt⟩
    · refine .inl ⟨⟨vs, h⟩, q (Itl X.K a) H1 hr1 k1 fun Pz hz S H σ' hr k ok i => ?_⟩
      obtain ⟨us, h1, h2⟩ := lt Pz hz S H σ' hr k ok
      refine ⟨fun d e => ?_, fun e => ⟨us, h1, by rw [← h2.length]; exact Nat.le_of_eq e⟩⟩
      obtain ⟨v, h3, h4⟩ := h2.get e
      refine ⟨⟨us, v, h1, h3⟩, fun x H' y => ?_⟩
      obtain ⟨e1, e2⟩ := y
      subst e1
      have := e2 us h1
      rw [h3] at this; cases this
      exact ⟨hr, .refl, h4⟩
    · refine .inr ⟨⟨vs, h⟩, q (Itt X.K a) H1 hr1 k1 fun Pz hz S H σ' hr k ok i => ?_⟩
      obtain ⟨us, h1, h2⟩ := lt Pz hz S H σ' hr k ok
      refine ⟨fun d e => ?_, fun e => ⟨us, h1, by rw [← h2.length]; exact Nat.le_of_eq e⟩⟩
      obtain ⟨v, h3, h4⟩ := h2.get e
      refine ⟨⟨us, v, h1, h3⟩, fun x H' y => ?_⟩
      obtain ⟨e1, e2⟩ := y
      subst e1
      have := e2 us h1
      rw [h3] at this; cases this
      exact ⟨hr, .refl, h4⟩⟩⟩
theorem rngD_get : ∀ (n : Nat) (lo : Int) (i : Nat) (d : D), (rngD lo n)[i]? = some d → i < n ∧ d = .int (lo + i)
  | 0, _, _, _, e => by simp [rngD] at e
  | n + 1, lo, 0, d, e => by simp [rngD] at e; subst e; exact ⟨Nat.succ_pos _, by simp⟩
  | n + 1, lo, i + 1, d, e => by
    obtain ⟨h1, h2⟩ := rngD_get n (lo + 1) i d (by simpa [rngD] using e)
    exact ⟨by omega, by rw [h2]; congr 1; push_cast; omega⟩
theorem rngD_length : ∀ (n : Nat) (lo : Int), (rngD lo n).length = n
  | 0, _ => rfl
  | n + 1, lo => by simp [rngD, rngD_length n]
theorem itr_later {K : Frag} {S1 : Hs} {H1 : Hp} {lo : Int} {n : Nat} {P : Addr → Prop} : Later K cx S1 H1 (fun _ _ => True) (ItG K cx (Itr lo n) (rngD lo n)) P := fun Pz hz S H σ' hr k _ i =>
  ⟨fun d e => by
    obtain ⟨h1, rfl⟩ := rngD_get hc n lo i d e
    refine ⟨h1, fun x H' y => ?_⟩
    obtain ⟨e1, e2⟩ := y
    subst e1 e2
    exact ⟨hr, .refl, rfl⟩, fun e => by rw [rngD_length hc] at e; exact Nat.le_of_eq e⟩
theorem walk_rng {a : R} {ea tg : Expr} {p pos : Pos} (hg : Gl X "range") (hm : X.mg "range" = none) (hs : starEach [ea] X.env = [(false, eval ea X.env)]) (ha : PE X ea (liftE X.K cx (wpE T c a))) :
    PI X tg (.Call (.Name "range" p) [ea] [] pos) (liftI X.K cx (.rng a) (wpI T c (.rng a))) :=
  piImp hc (pi_range1 hg hm (pa_cons ha pa_nil hs) hs) fun σ H R ⟨S, σ2, hr, rs, w⟩ => stepE hc hr rs w fun x S1 v H1 hr1 k1 rs1 r1 ⟨n, ex, h1, h2, w⟩ => by
    subst ex
    cases r1.1
    exact ⟨n, rfl, by omega, h1, w _ H1 hr1 k1 (itr_later hc)⟩
theorem its_later {K : Frag} {S1 : Hs} {H1 : Hp} {s : List Nat} {P : Addr → Prop} : Later K cx S1 H1 (fun _ _ => True) (ItG K cx (Its (sv s)) (s.map fun c => D.str [c])) P := fun Pz hz S H σ' hr k _ i =>
  ⟨fun d e => by
    rw [List.getElem?_map] at e
    obtain ⟨m, e1, rfl⟩ := Option.map_eq_some_iff.mp e
    obtain ⟨h1, h2⟩ := List.getElem?_eq_some_iff.mp e1
    refine ⟨by show i < s.toArray.size; rw [List.size_toArray]; exact h1, fun x H' y => ?_⟩
    obtain ⟨e3, ch, e4, e5⟩ := y
    subst e3 e5
    have e4 : s.toArray[i]? = some ch := e4
    rw [List.getElem?_toArray, e1] at e4
    cases e4
    exact ⟨hr, .refl, rfl⟩, fun e => by
    rw [List.length_map] at e
    show s.toArray.size ≤ i
    rw [List.size_toArray]; exact Nat.le_of_eq e⟩
theorem walk_ichs {a : R} {e tg : Expr} (ha : PE X e (liftE X.K cx (wpE T c a))) : PI X tg e (liftI X.K cx (.ichs a) (wpI T c (.ichs a))) :=
  piImp hc (pi_str ha) fun σ H R ⟨S, σ2, hr, rs, w⟩ => stepE hc hr rs w fun x S1 v H1 hr1 k1 rs1 r1 ⟨s, ex, w⟩ => by
    subst ex
    cases r1.1
    exact ⟨_, rfl, w _ H1 hr1 k1 (its_later hc)⟩
theorem walk_rng2 {a b : R} {ea eb tg : Expr} {p pos : Pos} (hg : Gl X "range") (hm : X.mg "range" = none) (hs : starEach [ea, eb] X.env = [(false, eval ea X.env), (false, eval eb X.env)]) (hs2 : starEach [eb] X.env = [(false, eval eb X.env)])
    (ha : PE X ea (liftE X.K cx (wpE T c a))) (hb : PE X eb (liftE X.K cx (wpE T c b))) :
    PI X tg (.Call (.Name "range" p) [ea, eb] [] pos) (liftI X.K cx (.rng2 a b) (wpI T c (.rng2 a b))) :=
  piImp hc (pi_range2 hg hm (pa_cons ha (pa_cons hb pa_nil hs2) (by rw [hs, hs2])) hs hs2) fun σ H R ⟨S, σ2, hr, rs, w⟩ => stepE hc hr rs w fun x S1 v H1 hr1 k1 rs1 r1 w => stepE hc hr1 rs1 w fun y S2 u H2 hr2 k2 rs2 r2 ⟨m, n, ex, ey, h, w'⟩ => by
    subst ex ey
    cases r1.1
    cases r2.1
    exact ⟨m, n, rfl, ⟨by omega, h.1, by omega, h.2.2.1⟩, w' _ H2 hr2 (k1.trans k2) (itr_later hc)⟩
theorem itc_later {K : Frag} {S1 : Hs} {H1 : Hp} {lo s : Int} {n : Nat} {P : Addr → Prop} : Later K cx S1 H1 (fun _ _ => True) (ItG K cx (Itc lo s n) (rngC lo s n)) P := fun Pz hz S H σ' hr k _ i =>
  ⟨fun d e => by
    unfold rngC at e
    rw [List.getElem?_map] at e
    obtain ⟨m, e1, rfl⟩ := Option.map_eq_some_iff.mp e
    obtain ⟨h1, h2⟩ := List.getElem?_eq_some_iff.mp e1
    rw [List.getElem_range] at h2
    rw [List.length_range] at h1
    subst h2
    refine ⟨h1, fun x H' y => ?_⟩
    obtain ⟨e1, e2⟩ := y
    subst e1 e2
    exact ⟨hr, .refl, rfl⟩, fun e => by
    unfold rngC at e
    rw [List.length_map, List.length_range] at e; exact Nat.le_of_eq e⟩
theorem walk_rng3 {a b s : R} {ea eb es tg : Expr} {p pos : Pos} (hg : Gl X "range") (hm : X.mg "range" = none) (hs : starEach [ea, eb, es] X.env = (false, eval ea X.env) :: starEach [eb, es] X.env) (hs1 : starEach [eb, es] X.env = (false, eval eb X.env) :: starEach [es] X.env) (hs2 : starEach [es] X.env = [(false, eval es X.env)])
    (hn : ((backTo pos (starEach [eb, es] X.env)).any fun x => x.fst) = false)
    (ha : PE X ea (liftE X.K cx (wpE T c a))) (hb : PE X eb (liftE X.K cx (wpE T c b))) (hse : PE X es (liftE X.K cx (wpE T c s))) :
    PI X tg (.Call (.Name "range" p) [ea, eb, es] [] pos) (liftI X.K cx (.rng3 a b s) (wpI T c (.rng3 a b s))) :=
  piImp hc (pi_range3 hg hm (pa_cons ha (pa_cons hb (pa_cons hse pa_nil hs2) hs1) hs) hs hn) fun σ H R ⟨S, σ2, hr, rs, w⟩ => stepE hc hr rs w fun x S1 v H1 hr1 k1 rs1 r1 w => stepE hc hr1 rs1 w fun y S2 u H2 hr2 k2 rs2 r2 w => stepE hc hr2 rs2 w fun z S3 o H3 hr3 k3 rs3 r3 ⟨i, j, k, n, ex, ey, ez, h, w'⟩ => by
    subst ex ey ez
    cases r1.1
    cases r2.1
    cases r3.1
    exact ⟨i, j, k, n, rfl, h, w' _ H3 hr3 ((k1.trans k2).trans k3) (itc_later hc)⟩
end
section
variable {X : Cx} {T : Tbl} {c : Nat → List Vx → Hs → VK2 → Prop} {cx : Cls2} (hc : CalMono c)
include hc
omit hc in
theorem dic_pairs {K : Frag} {H : Hp} : ∀ {ps : List (Int × Int)} {ks : List (Key × V)}, DicR K H (ps.map fun p => (D.int p.1, D.int p.2)) ks → ks = ps.map L2.DX.entI
  | [], _, .nil => rfl
  | p :: ps, (k, v) :: ks, .cons h t => by
    have h1 : k = .inl p.1 := h.1
    have h2 : v = .int p.2 := h.2
    rw [dic_pairs t, h1, h2]; rfl
omit hc in
theorem pairs_rep {K : Frag} {H : Hp} : ∀ {ts : List Addr} {qs : List (Int × Int)}, Paired (fun (t : Addr) (q : Int × Int) => H t = some (.tup [.int q.1, .int q.2])) ts qs → RepL K H (qs.map pairD) (ts.map V.ref)
  | _, _, .nil => .nil
  | t :: ts, q :: qs, .cons h r => .cons ⟨t, _, rfl, SqT.of h, .cons rfl (.cons rfl .nil)⟩ (pairs_rep r)
theorem snd_sIt {e : R} {ee : Expr} {p apos cpos pos : Pos} (hcalm : X.calm = true) (hg : Gl X "sorted") (hm : X.mg "sorted" = none) (he : PE X ee (liftE X.K cx (wpE T c e)))
    (hbase : attributeBase ee "items" X.env (eval ee X.env) = eval ee X.env) (hline : (apos.endLine == cpos.line) = true) :
    PE X (.Call (.Name "sorted" p) [.Call (.Attribute ee "items" apos) [] [] cpos] [] pos) (liftE X.K cx (wpE T c (.sIt e))) :=
  peImp (L2.DX.pe_sItems hcalm hg hm he hbase hline) fun σ H Q ⟨S, σ2, hr, rs, w⟩ => stepE hc hr rs w fun x S1 v H1 hr1 k1 rs1 r1 w => by
    obtain ⟨cn, ⟨ps, rfl, hl, q⟩, hcn⟩ := view_of hr1 r1.1 w
    obtain ⟨a, ks, rfl, ha, rd⟩ := hcn
    have e := dic_pairs rd
    subst e
    refine ⟨a, ps, rfl, ha, hl, fun qs ts l H2 hp hs hg2 hn hl2 hpr => ?_⟩
    have k2 : Keep S1 S1 H1 H2 := ⟨fun b o e n => ⟨hg2 b o e, n⟩, fun b e => by
      cases q : H1 b with
      | none => rfl
      | some o => rw [hg2 b o q] at e; cases e⟩
    have hr2 : Rel X.K cx S1 H2 := fun b o e => by
      obtain ⟨h, z, _⟩ := (hr1 b o e).some
      exact RelO.keep (k2.tups hr1) ((hg2 b h z).trans z.symm) (hr1 b o e)
    obtain ⟨x, ex, q⟩ := q qs hp (hs.imp fun h => lex_lt h)
    cases ex
    exact q _ _ hr2 (k1.trans k2) ⟨⟨l, ts.map V.ref, rfl, hl2, hr1.free hn, pairs_rep hpr⟩, fun _ => ⟨l, rfl, k1.up l hn⟩⟩
theorem snd_rev {e : R} {ee : Expr} {k : Nat} {p1 p2 p3 pos : Pos} (he : PE X ee (liftE X.K cx (wpE T c e))) : PE X (.Subscript ee (.Slice none none (some (.UnaryOp .USub (.Constant (.int 1) k p1) p2)) p3) pos) (liftE X.K cx (wpE T c (.rev e))) :=
  peImp (pe_rev2 he) fun σ H Q ⟨S, σ2, hr, rs, w⟩ => stepE hc hr rs w fun x S1 v H1 hr1 k1 rs1 r1 w => by
    have rr : ∀ {ds : List D} {vs : List V}, RepL X.K H1 ds vs → RepL X.K H1 ds.reverse vs.reverse := by
      intro ds
      induction ds with
      | nil => intro vs e; cases e; exact .nil
      | cons d ds ih =>
        rintro _ ⟨v, vr, rfl, r, rr⟩
        rw [List.reverse_cons, List.reverse_cons]
        exact RepL.append (ih rr) (.cons r .nil)
    obtain ⟨cn, ⟨ds, w⟩, hcn⟩ := view_of hr1 r1.1 w
    rcases w with ⟨rfl, q⟩ | ⟨rfl, q⟩
    · obtain ⟨a, vs, rfl, ha, rv⟩ := hcn
      obtain ⟨x, ex, q⟩ := q
      cases ex
      exact .inl ⟨a, vs, rfl, SqL.of ha, fun p n => fin_vl (KVof.of k1 q) hr1 (rr rv) p n⟩
    · obtain ⟨a, vs, rfl, ha, rv⟩ := hcn
      obtain ⟨x, ex, q⟩ := q
      cases ex
      exact .inr ⟨a, vs, rfl, ha, fun p n => fin_tup (KVof.of k1 q) hr1 (rr rv) p n⟩
omit hc in
theorem rgV_rep {K : Frag} {H : Hp} {n : Int} : RepL K H (rngD 0 n.toNat) (rgV 0 n) := by
  have key : ∀ (m : Nat) (lo : Int), RepL K H (rngD lo m) ((List.range m).map fun i => V.int (lo + (i : Nat))) := by
    intro m
    induction m with
    | zero => intro lo; exact .nil
    | succ m ih =>
      intro lo
      rw [List.range_succ_eq_map, List.map_cons]
      refine .cons (by show V.int (lo + ((0 : Nat) : Int)) = V.int lo; simp) ?_
      rw [List.map_map]
      have e : ((fun i : Nat => V.int (lo + (i : Nat))) ∘ Nat.succ) = fun i : Nat => V.int (lo + 1 + (i : Nat)) := by
        funext i
        show V.int (lo + ((i + 1 : Nat) : Int)) = _
        congr 1; push_cast; omega
      rw [e]
      exact ih (lo + 1)
  unfold rgV
  rw [show (n - 0).toNat = n.toNat by omega]
  exact key n.toNat 0
theorem snd_lrg {a : R} {ea : Expr} {p p2 pos2 pos : Pos} (hcalm : X.calm = true) (hg : Gl X "list") (hm : X.mg "list" = none) (hg2 : Gl X "range") (hm2 : X.mg "range" = none) (ha : PE X ea (liftE X.K cx (wpE T c a)))
    (na : starEach [ea] X.env = (false, eval ea X.env) :: starEach [] X.env) : PE X (.Call (.Name "list" p) [.Call (.Name "range" p2) [ea] [] pos2] [] pos) (liftE X.K cx (wpE T c (.lrg a))) :=
  peImp (pe_listRg hcalm hg hm (prg_1 hg2 hm2 ha na)) fun σ H Q ⟨S, σ2, hr, rs, w⟩ => stepE hc hr rs w fun x S1 v H1 hr1 k1 rs1 r1 ⟨n, ex, h1, h2, x', ex', q⟩ => by
    subst ex
    cases r1.1
    cases ex'
    exact ⟨n, rfl, ⟨by omega, by omega, by omega, by omega, by omega⟩, fun p n => fin_vl (KVof.of k1 q) hr1 rgV_rep p n⟩
omit hc in
theorem repL_ints {K : Frag} {H : Hp} : ∀ ns : List Int, RepL K H (ns.map D.int) (ns.map V.int)
  | [] => .nil
  | _ :: ns => .cons rfl (repL_ints ns)
theorem snd_setop {k : Bool} {a : R} {ea e : Expr} (hp : ∀ ta, PE X ea ta → PE X e (tSet2 X.K k ta)) (ha : PE X ea (liftE X.K cx (wpE T c a))) : PE X e (liftE X.K cx (wpE T c (.setop k a))) :=
  peImp (hp _ ha) fun σ H Q ⟨S, σ2, hr, rs, w⟩ => stepE hc hr rs w fun x S1 v H1 hr1 k1 rs1 r1 w => by
    obtain ⟨cn, ⟨ns, rfl, hl, q⟩, hcn⟩ := view_of hr1 r1.1 w
    obtain ⟨l, vs, rfl, hs, rv⟩ := hcn
    have e := rv.ints
    subst e
    refine ⟨l, ns, rfl, hs, hl, fun ms m1 m2 m3 => ⟨fun hk p hn => ?_, fun hk => ?_⟩⟩
    · obtain ⟨x, ex, q⟩ := q ms m1 m2 m3
      rw [if_pos hk] at ex
      cases ex
      exact fin_vl (KVof.of k1 q) hr1 (repL_ints ms) p hn
    · obtain ⟨x, ex, q⟩ := q ms m1 m2 m3
      rw [if_neg (by rw [hk]; exact Bool.false_ne_true)] at ex
      cases ex
      exact fin_int (KVof.of k1 q) hr1
theorem snd_slen {a : R} {ea e : Expr} (hp : ∀ ta, PE X ea ta → PE X e (tSlen X.K ta)) (ha : PE X ea (liftE X.K cx (wpE T c a))) : PE X e (liftE X.K cx (wpE T c (.slen a))) :=
  peImp (hp _ ha) fun σ H Q ⟨S, σ2, hr, rs, w⟩ => stepE hc hr rs w fun x S1 v H1 hr1 k1 rs1 r1 w => by
    obtain ⟨cn, ⟨ns, rfl, hl, q⟩, hcn⟩ := view_of hr1 r1.1 w
    obtain ⟨l, vs, rfl, hs, rv⟩ := hcn
    have e := rv.ints
    subst e
    refine ⟨l, ns, rfl, SqL.of hs, hl, fun ms m1 m2 => ?_⟩
    obtain ⟨x, ex, q⟩ := q ms m1 m2
    cases ex
    exact fin_int (KVof.of k1 q) hr1
theorem snd_index {o a : R} {eo ea e : Expr} (hp : ∀ to t, PE X eo to → PA X [ea] t → PE X e (tBM X.K "list" (rIndex X.K) to t)) (hs : starEach [ea] X.env = [(false, eval ea X.env)]) (ho : PE X eo (liftE X.K cx (wpE T c o))) (ha : PE X ea (liftE X.K cx (wpE T c a))) :
    PE X e (liftE X.K cx (wpE T c (.bm1 .index o a))) :=
  peImp (hp _ _ ho (pa_cons ha pa_nil hs)) fun σ H Q ⟨S, σ2, hr, rs, w⟩ => stepE hc hr rs w fun x S1 v H1 hr1 k1 rs1 r1 ⟨ty, w⟩ => by
    obtain ⟨cn, ⟨ds0, rfl⟩, hcn⟩ := view_of hr1 r1.1 ty
    obtain ⟨l0, vs0, rfl, h0, _⟩ := hcn
    refine ⟨.inl ⟨rfl, vs0, SqL.of h0⟩, stepE hc hr1 rs1 w fun y S2 u H2 hr2 k2 rs2 r2 w => ?_⟩
    obtain ⟨cn, ⟨ds, yd, j, z, rfl, rfl, f1, f2, g1, g2, g3, x', ex, q⟩, hcn⟩ := view_of hr2 (r1.1.keep k2 hr1) w
    obtain ⟨l, vs, e, hl, rv⟩ := hcn
    cases e
    cases ex
    have ru : RepV X.K H2 yd u := r2.1
    obtain ⟨zv, hz, rz⟩ := rv.get g1
    have fz : flatD z = true := List.all_eq_true.mp f2 z (List.mem_of_getElem? g1)
    refine ⟨l0, vs, u, j, zv, rfl, rfl, SqL.of hl, flat_rel f1 ru, flats_rel f2 rv, hz, by rw [eqV_eqB fz f1 rz ru]; exact g2, fun m z' hm hz' => ?_, fin_int (KVof.of (k1.trans k2) q) hr2⟩
    have hmd : m < ds.length := by rw [rv.length]; exact (List.getElem?_eq_some_iff.mp hz').1
    obtain ⟨zv', hz2, rz2⟩ := rv.get (List.getElem?_eq_getElem hmd)
    rw [hz'] at hz2
    cases hz2
    have fz2 : flatD ds[m] = true := List.all_eq_true.mp f2 _ (List.getElem_mem hmd)
    rw [eqV_eqB fz2 f1 rz2 ru]
    exact g3 m _ hm (List.getElem?_eq_getElem hmd)
theorem snd_count {o a : R} {eo ea e : Expr} (hp : ∀ to t, PE X eo to → PA X [ea] t → PE X e (tBM X.K "list" (rCntI X.K) to t)) (hs : starEach [ea] X.env = [(false, eval ea X.env)]) (ho : PE X eo (liftE X.K cx (wpE T c o))) (ha : PE X ea (liftE X.K cx (wpE T c a))) :
    PE X e (liftE X.K cx (wpE T c (.bm1 .count o a))) :=
  peImp (hp _ _ ho (pa_cons ha pa_nil hs)) fun σ H Q ⟨S, σ2, hr, rs, w⟩ => stepE hc hr rs w fun x S1 v H1 hr1 k1 rs1 r1 ⟨ty, w⟩ => by
    obtain ⟨cn, ⟨ds0, rfl⟩, hcn⟩ := view_of hr1 r1.1 ty
    obtain ⟨l0, vs0, rfl, h0, _⟩ := hcn
    refine ⟨.inl ⟨rfl, vs0, SqL.of h0⟩, stepE hc hr1 rs1 w fun y S2 u H2 hr2 k2 rs2 r2 w => ?_⟩
    obtain ⟨cn, ⟨ns, k, rfl, rfl, x', ex, q⟩, hcn⟩ := view_of hr2 (r1.1.keep k2 hr1) w
    obtain ⟨l, vs, e, hl, rv⟩ := hcn
    cases e
    cases ex
    have e2 := rv.ints
    subst e2
    obtain rfl : u = .int k := r2.1
    exact ⟨l0, ns, k, rfl, rfl, SqL.of hl, fin_int (KVof.of (k1.trans k2) q) hr2⟩
omit hc in
theorem pe_xtIdx {o e : Expr} {to : TE} {t : TA} {apos cpos : Pos} (ho : PE X o to) (ha : PA X [e] t) (hbase : attributeBase o "index" X.env (eval o X.env) = eval o X.env)
    (hfew : ((backTo cpos (starEach [e] X.env)).all (fun x => !x.1) && (backToKw cpos (keywordEach [] X.env)).all (fun x => x.1.isSome) && decide ([e].length + ([] : List Keyword).length + (if ([] : List Keyword).isEmpty then 0 else 1) < 30)) = true)
    (hline : (apos.endLine == cpos.line) = true) (hs : starEach [e] X.env = (false, eval e X.env) :: starEach [] X.env) :
    PE X (.Call (.Attribute o "index" apos) [e] [] cpos) (fun σ H Q => to σ H fun x H1 => ∃ p, x = .ref p ∧ (∃ vs, SqE H1 p vs) ∧ t σ H1 fun xs H2 => ∃ (ns : List Int) (k : Int), xs = [.int k] ∧ SqT X.K H2 p (ns.map V.int) ∧ k ∈ ns ∧ Q (.int (ns.idxOf k : Nat)) H2) := by
  refine ⟨fun pins s σ H Q I h => wpAny_Call_method_late hbase hfew hline rfl (thn (ho.run pins s σ H _ I h) fun v s1 ⟨x, H1, I1, r1, p, ex, ⟨vs, u, hu, hd⟩, q1⟩ => ?_)⟩
  subst ex
  cases r1
  obtain ⟨hg, _, its0, _, o2, ho2, hc2, _⟩ := I1.hok p _ hu
  rw [hg] at ho2
  cases ho2
  refine ⟨"tuple", "tuple.index", PySem.F.plainAttrs_tuple, PySem.F.slot_tuple_index, PySem.F.type_tuple_index, ⟨u, hg, hc2⟩, fun a ea => by cases ea; exact ⟨u, hg, hd⟩, ?_⟩
  have hA := ha.run cpos pins s1 σ H1 _ I1 q1
  rw [hs] at hA ⊢
  refine Calls.callWith_builtin (by show (false || (backTo cpos (starEach [] X.env)).any (·.1)) = false; rfl) (Calls.evalArgs_plain ?_)
  refine thn hA fun us s2 ⟨ys, H2, I2, r2, ns, k, ey, hq, hk, q2⟩ => ?_
  subst ey
  obtain ⟨uk, rfl, tk, rfl⟩ := vals1 r2
  obtain ⟨its, rv, pl, hz⟩ := I2.tuple hq
  have hl := rv.length
  rw [List.length_map] at hl
  refine SeqAt.call_tuple_index (ks := ns) (k := k) pl ⟨hl.symm, fun j h1 h2 => ?_⟩ hk ⟨.int (ns.idxOf k : Nat), H2, I2.tok _, ⟨_, rfl⟩, q2⟩
  obtain ⟨w, hw, tw, ew⟩ := rv.get (i := j) (x := V.int ns[j]) (by simp [h2])
  have e1 : its[j] = w := by
    have := (List.getElem?_eq_some_iff.mp hw).2
    exact this
  rw [e1, ew, show decide (ns[j] = k) = (ns[j] == k) from by by_cases z : ns[j] = k <;> simp [z]]
  exact SeqAt.EqAt.int_int _ _ _ _
theorem snd_indexT {o a : R} {eo ea e : Expr} (hp : ∀ to t, PE X eo to → PA X [ea] t → PE X e (fun σ H Q => to σ H fun x H1 => ∃ p, x = .ref p ∧ (∃ vs, SqE H1 p vs) ∧ t σ H1 fun xs H2 => ∃ (ns : List Int) (k : Int), xs = [.int k] ∧ SqT X.K H2 p (ns.map V.int) ∧ k ∈ ns ∧ Q (.int (ns.idxOf k : Nat)) H2))
    (hs : starEach [ea] X.env = [(false, eval ea X.env)]) (ho : PE X eo (liftE X.K cx (wpE T c o))) (ha : PE X ea (liftE X.K cx (wpE T c a))) : PE X e (liftE X.K cx (wpE T c (.bm1 .indexT o a))) :=
  peImp (hp _ _ ho (pa_cons ha pa_nil hs)) fun σ H Q ⟨S, σ2, hr, rs, w⟩ => stepE hc hr rs w fun x S1 v H1 hr1 k1 rs1 r1 ⟨ty, w⟩ => by
    obtain ⟨ds0, rfl⟩ := ty
    obtain ⟨p, vs0, rfl, h0, r0⟩ := r1.1
    refine ⟨p, rfl, ⟨vs0, h0⟩, stepE hc hr1 rs1 w fun y S2 u H2 hr2 k2 rs2 r2 w => ?_⟩
    obtain ⟨ns, k, ex, rfl, hk, x', ex', q⟩ := w
    cases ex
    cases ex'
    obtain ⟨p', vs, e, hv, rv⟩ : RepV X.K H2 (.xt (ns.map D.int)) (.ref p) := RepV.keep (k2.tups hr1) _ _ r1.1
    cases e
    have e2 := rv.ints
    subst e2
    obtain rfl : u = .int k := r2.1
    exact ⟨ns, k, rfl, hv.t, hk, fin_int (KVof.of (k1.trans k2) q) hr2⟩
omit hc in
theorem strs_rep {K : Frag} {H : Hp} : ∀ {zs : List (List Nat)} {vs : List V}, RepL K H (zs.map D.str) vs → vs = (zs.map sv).map V.str
  | [], _, e => e
  | z :: zs, _, ⟨v, vr, e, r, rr⟩ => by subst e; cases r; rw [strs_rep rr]; rfl
omit hc in
theorem strs_of {K : Frag} {H : Hp} : ∀ (ys : List Str), RepL K H ((ys.map fun z => z.cps.toList).map D.str) (ys.map V.str)
  | [] => .nil
  | y :: ys => .cons (by show V.str y = V.str (sv y.cps.toList); congr 1) (strs_of ys)
omit hc in
theorem sv_cps (y : Str) : sv y.cps.toList = y := by show (⟨y.cps.toList.toArray⟩ : Str) = y; simp
theorem snd_join {o a : R} {eo ea : Expr} {apos pos : Pos} (hs : starEach [ea] X.env = [(false, eval ea X.env)]) (hbase : attributeBase eo "join" X.env (eval eo X.env) = eval eo X.env) (hline : (apos.endLine == pos.line) = true) (ho : PE X eo (liftE X.K cx (wpE T c o))) (ha : PE X ea (liftE X.K cx (wpE T c a))) :
    PE X (.Call (.Attribute eo "join" apos) [ea] [] pos) (liftE X.K cx (wpE T c (.bm1 .join o a))) :=
  peImp (pe_join ho ha hs hbase hline) fun σ H Q ⟨S, σ2, hr, rs, w⟩ => stepE hc hr rs w fun x S1 v H1 hr1 k1 rs1 r1 ⟨ty, w⟩ => by
    have isS : ∃ s, x = .d (.str s) := by
      cases x with
      | d y => cases y <;> first | exact ⟨_, rfl⟩ | exact ty.elim
      | _ => exact ty.elim
    obtain ⟨s, rfl⟩ := isS
    cases r1.1
    refine ⟨⟨_, rfl⟩, stepE hc hr1 rs1 w fun y S2 u H2 hr2 k2 rs2 r2 w => ?_⟩
    obtain ⟨cn, ⟨s', zs, e1, rfl, hz, x', ex, q⟩, hcn⟩ := view_of hr2 r2.1 w
    cases e1
    cases ex
    obtain ⟨l, vs, rfl, hl, rv⟩ := hcn
    have e2 := strs_rep rv
    subst e2
    refine ⟨_, l, zs.map sv, rfl, rfl, .inl (SqL.of hl), ?_, ?_⟩
    · rw [List.map_map, List.length_map, sv_length]
      have : (List.map (Str.length ∘ sv) zs) = zs.map List.length := List.map_congr_left fun z _ => sv_length z
      rw [show (List.map ((fun x => x.length) ∘ sv) zs) = zs.map List.length from this]
      exact hz
    · have := fin_d (KVof.of (k1.trans k2) q) hr2 (v := .str (sv (joinD s zs))) rfl
      unfold joinD at this
      rw [sv_cps] at this
      exact this
theorem snd_split {o a : R} {eo ea : Expr} {apos pos : Pos} (hs : starEach [ea] X.env = [(false, eval ea X.env)]) (hbase : attributeBase eo "split" X.env (eval eo X.env) = eval eo X.env) (hline : (apos.endLine == pos.line) = true) (ho : PE X eo (liftE X.K cx (wpE T c o))) (ha : PE X ea (liftE X.K cx (wpE T c a))) :
    PE X (.Call (.Attribute eo "split" apos) [ea] [] pos) (liftE X.K cx (wpE T c (.bm1 .split o a))) :=
  peImp (pe_split ho ha hs hbase hline) fun σ H Q ⟨S, σ2, hr, rs, w⟩ => stepE hc hr rs w fun x S1 v H1 hr1 k1 rs1 r1 ⟨ty, w⟩ => by
    have isS : ∃ s, x = .d (.str s) := by
      cases x with
      | d y => cases y <;> first | exact ⟨_, rfl⟩ | exact ty.elim
      | _ => exact ty.elim
    obtain ⟨s, rfl⟩ := isS
    cases r1.1
    refine ⟨⟨_, rfl⟩, stepE hc hr1 rs1 w fun y S2 u H2 hr2 k2 rs2 r2 ⟨s', t, e1, e2, h0, hz, x', ex, q⟩ => ?_⟩
    cases e1
    subst e2
    cases r2.1
    cases ex
    refine ⟨_, _, rfl, rfl, ?_, by rw [sv_length]; exact hz, fun p n => ?_⟩
    · rw [sv_length]
      cases t with
      | nil => exact (h0 rfl).elim
      | cons c t => rfl
    · exact fin_vl (KVof.of (k1.trans k2) q) hr2 (strs_of _) p n
theorem snd_upper {o : R} {eo : Expr} {apos pos : Pos} (hbase : attributeBase eo "upper" X.env (eval eo X.env) = eval eo X.env) (hline : (apos.endLine == pos.line) = true) (ho : PE X eo (liftE X.K cx (wpE T c o))) :
    PE X (.Call (.Attribute eo "upper" apos) [] [] pos) (liftE X.K cx (wpE T c (.upper o))) :=
  peImp (pe_upper ho hbase hline) fun σ H Q ⟨S, σ2, hr, rs, w⟩ => stepE hc hr rs w fun x S1 v H1 hr1 k1 rs1 r1 ⟨s, ex, hz, x', ex', q⟩ => by
    subst ex
    cases r1.1
    cases ex'
    refine ⟨⟨_, rfl⟩, _, rfl, rfl, by rw [sv_length]; omega, ?_⟩
    have := fin_d (KVof.of k1 q) hr1 (v := .str (sv (upD s))) rfl
    unfold upD at this
    rw [sv_cps] at this
    exact this
end
noncomputable def IteT (K : PySem.W.Frag) (a : Addr) : It :=
  ⟨fun i H => ∃ (xs : List V) (x : V), SqT K H a xs ∧ xs[i]? = some x, fun i H v H' => ∃ T x, v = .ref T ∧ H T = none ∧ H' = upd H T (.tup [.int (i : Nat), x]) ∧ ∀ xs, SqT K H a xs → xs[i]? = some x, fun i H => ∃ xs : List V, SqT K H a xs ∧ xs.length = i⟩
theorem turn_enumT {P : Program} {w : World} {K : PySem.W.Frag} {elts : List Expr} {kk : Nat} {tpos : Pos} (a e it : Addr) :
    Turn P w K (.Tuple elts kk tpos) (IteT K a) [e, it] e (fun i h => (∃ old, IsEnum h e it ((i : Nat) : Int) old) ∧ h.IsTupleIter it a i ∧ e ≠ it) where
  mem := by simp
  obj := fun i h st b hb => by
    obtain ⟨⟨old, he⟩, ⟨o, ho, hc, hd⟩, _⟩ := st
    have e' : b = e ∨ b = it := by simpa using hb
    rcases e' with z | z
    · rw [z]; exact ⟨_, he, fun v q => nomatch q⟩
    · rw [z]; exact ⟨o, ho, fun v q => by rw [hd] at q; cases q⟩
  keep := fun i h h' st k => let ⟨⟨old, he⟩, hi, hne⟩ := st; ⟨⟨old, k e (by simp) _ he⟩, hi.at fun o q => k it (by simp) o q, hne⟩
  item := by
    intro X hP hw hK hc i pins s σ H E I hf st hg
    subst hP hw hK
    obtain ⟨⟨old, he⟩, hit, hne⟩ := st
    obtain ⟨xs, x, hq, hx⟩ := hg
    obtain ⟨its, rv, p, hz⟩ := I.tuple hq
    obtain ⟨u, hu, ru⟩ := rv.get hx
    have hel : e < s.heap.objs.size := Heap.lt_size he
    have hil : it < s.heap.objs.size := by obtain ⟨_, q, _⟩ := hit; exact Heap.lt_size q
    have hae : a ≠ it := fun z => by
      subst z
      obtain ⟨o, q, c, d⟩ := hit
      obtain ⟨o', q', c', _⟩ := p
      rw [q] at q'; cases q'
      rw [c] at c'
      exact absurd c' (by decide +kernel)
    have hee : a ≠ e := fun z => by
      subst z
      obtain ⟨o', q', c', _⟩ := p
      rw [he] at q'; cases q'
      have c'' : Value.type "enumerate" = Value.type "tuple" := c'
      exact absurd c'' (by decide +kernel)
    have hlen : i < its.toArray.size := by
      have := (List.getElem?_eq_some_iff.mp hu).1
      simpa using this
    refine wpAny_pyNext_enum_itemD (Draws.tuple (prog := X.prog) (w := X.w) (A := X.A.in1) (show X.A.in1.handled = none from I.ok.hd hc) it a hae its.toArray) he ⟨hit, (show s.heap.IsTuple a its.toArray from p)⟩ hlen hne (by simp [hne, Ne.symm hee]) fun u' h' tk hP ho hst' hT hsz hk => ?_
    have eu : u' = u := by
      have hP : its.toArray[i]? = some u' := hP
      have hu2 : its.toArray[i]? = some u := by simpa using hu
      rw [hu2] at hP
      exact (Option.some.inj hP).symm
    subst eu
    refine ⟨_, rfl, wpAny_letOwnedTupleGo_enum (s := { s with heap := h', toks := tk + 1 }) ho fun h'' he' sb => ?_⟩
    have hT2 : h''.get? s.heap.objs.size = some { cls := .type "tuple", data := .seq #[.int i tk, u'] } := (sb.2 _ (Nat.ne_of_gt hel)).trans hT
    have new : ObjOk X.prog X.w (upd H s.heap.objs.size (.tup [.int (i : Nat), x])) h'' s.heap.objs.size (.tup [.int (i : Nat), x]) :=
      ⟨by show 2 ≤ sizeLine; decide, [.int i tk, u'], .cons ⟨_, rfl⟩ (.cons ru .nil), ⟨_, hT2, rfl, _, rfl⟩⟩
    have I1 : Inv X pins σ (upd H s.heap.objs.size (.tup [.int (i : Nat), x])) { s with heap := h'', toks := tk + 1 } :=
      I.turnedNew (ch := [e, it]) (fun b ob hb q => (sb.2 b (fun z => hb (by simp [z]))).trans (hk b ob (fun z => hb (by simp [z])) (fun z => hb (by simp [z])) q)) hf (Nat.le_refl _) new
    refine ⟨.ref s.heap.objs.size, _, I1, rfl, ⟨_, x, rfl, I.hok.fresh (Nat.le_refl _), rfl, fun ys hy => by rw [I.tuple_inj hy hq]; exact hx⟩, ⟨⟨u', ?_⟩, hst'.1.at fun o q => (sb.2 it (Ne.symm hne)).trans q, hne⟩, fun b hb => ?_⟩
    · have e1 : ((i + 1 : Nat) : Int) = (i : Int) + 1 := by omega
      rw [e1]; exact he'
    · have hb' : b < s.heap.objs.size := by
        have e' : b = e ∨ b = it := by simpa using hb
        rcases e' with z | z
        · rw [z]; exact hel
        · rw [z]; exact hil
      rw [upd_ne (Nat.ne_of_lt hb')]
      exact (hf b hb).1
  done := by
    intro X hP hw hK hc i pins s σ H E I hf st hg
    subst hP hw hK
    obtain ⟨⟨old, he⟩, hit, hne⟩ := st
    obtain ⟨xs, hq, hx⟩ := hg
    obtain ⟨its, rv, p, hz⟩ := I.tuple hq
    obtain ⟨f0, f1, f2, f3, f4, f5⟩ := hf it (by simp)
    have hl := rv.length
    have hae : a ≠ it := fun z => by
      subst z
      obtain ⟨o, q, c, d⟩ := hit
      obtain ⟨o', q', c', _⟩ := p
      rw [q] at q'; cases q'
      rw [c] at c'
      exact absurd c' (by decide +kernel)
    have hs : its.toArray.size = i := by rw [List.size_toArray, ← hl]; exact hx
    refine wpAny_pyNext_enum_endD (Draws.tuple (prog := X.prog) (w := X.w) (A := X.A.in1) (show X.A.in1.handled = none from I.ok.hd hc) it a hae its.toArray) he ⟨by rw [hs]; exact hit, (show s.heap.IsTuple a its.toArray from p)⟩ fun h' eb => ⟨rfl, I.turned (t' := s.toks) (fun b o hb q => eb b o hb q) f0 f1 f3 f4 f5⟩
  self := fun A i s Q E st h => let ⟨⟨_, he⟩, _⟩ := st; wpAny_pyIter_enum he h
theorem meets_enumT {v : Value} {o : Obj} {H : Heap → Prop} (B : Begins v o H) :
    Meets (Builtin.«enumerate.__new__» ⟨[.type "enumerate", v], []⟩) (fun _ R s => H s.heap ∧
      R (.ok (.ret (.ref (s.heap.push o).objs.size))) { s with heap := (s.heap.push o).push { cls := .type "enumerate", data := .fields #[.none, .bool false, .ref s.heap.objs.size, rawInt 0, .none, .none] } }) :=
  .of_wp fun prog w A R s h => by
    obtain ⟨hp, g, d, tk, os⟩ := s; obtain ⟨h1, h⟩ := h
    have hsub := sub_enumerate
    have q1 : ∀ {A' : Around} {E : Value → Shared → Prop} {Q : Value → Shared → Prop}, Q (.ref hp.objs.size) ⟨hp.push o, g, d, tk, os⟩ → wpAny (model prog w) A' (pyIter v) Q E ⟨hp, g, d, tk, os⟩ :=
      fun q => B.iter prog w _ _ ⟨hp, g, d, tk, os⟩ _ h1 q
    wp_walk using q1
    refine wpAny_stack_any fun st => wpAny_pure ?_
    split
    · rename_i c _ _ _ _ _
      cases (c == Value.type "enumerate")
      · wp_walk using q1
        exact ⟨_, rfl, h⟩
      · wp_walk using q1
        exact ⟨_, rfl, h⟩
    · wp_walk using q1
      exact ⟨_, rfl, h⟩
theorem call_enumT {prog : Program} {w : World} {A : Around} {E : Value → Shared → Prop} {s : Shared} {v : Value} {o : Obj} {H : Heap → Prop} {Q : Value → Shared → Prop} (B : Begins v o H) (h1 : H s.heap)
    (h : ∀ h', IsEnum h' (s.heap.objs.size + 1) s.heap.objs.size 0 .none → h'.get? s.heap.objs.size = some o → h'.objs.size = s.heap.objs.size + 2 →
      (∀ b o, s.heap.get? b = some o → h'.get? b = some o) → Q (.ref (s.heap.objs.size + 1)) { s with heap := h' }) :
    wpAny (model prog w) A (call (.type "enumerate") [v]) Q E s := by
  refine callType_new F.called_enumerate (by decide) (F.typeCall_enumerate_1 _) (F.newCall_enumerate_1 _) (fun obj => F.args_object_init_2 obj _) F.entry_enumerate_new
    (meets_enumT B) ⟨h1, ?_⟩
  have hz : (s.heap.push o).objs.size = s.heap.objs.size + 1 := Heap.size_push ..
  show _ ∧ _
  rw [hz]
  have he : IsEnum ((s.heap.push o).push { cls := .type "enumerate", data := .fields #[.none, .bool false, .ref s.heap.objs.size, rawInt 0, .none, .none] }) (s.heap.objs.size + 1) s.heap.objs.size 0 .none := by
    have := Heap.get?_push_size (s.heap.push o) (o := { cls := .type "enumerate", data := .fields #[.none, .bool false, .ref s.heap.objs.size, rawInt 0, .none, .none] }) rfl
    rw [hz] at this; exact this
  refine ⟨⟨_, he, rfl⟩, h _ he (Heap.get?_push_of_some _ (Heap.get?_push_size _ B.free)) (by rw [Heap.size_push, hz]) fun b o x => Heap.get?_push_of_some _ (Heap.get?_push_of_some _ x)⟩
noncomputable def iEnumA (K : Frag) (ta : TA) : TI := fun σ H R => ta σ H fun vs H1 => ∃ a, vs = [.ref a] ∧ (((∃ xs, SqL K H1 a xs) ∧ R (Ite K a) H1) ∨ ((∃ xs, SqT K H1 a xs) ∧ R (IteT K a) H1))
theorem pi_enumA {X : Cx} {e : Expr} {ta : TA} {p pos tpos : Pos} {elts : List Expr} {kk : Nat} (hg : Gl X "enumerate") (hm : X.mg "enumerate" = none) (ha : PA X [e] ta) (hs : starEach [e] X.env = [(false, eval e X.env)]) :
    PI X (.Tuple elts kk tpos) (.Call (.Name "enumerate" p) [e] [] pos) (iEnumA X.K ta) := by
  refine ⟨fun pins s σ H R I h => ?_⟩
  refine Call_ (ld_blt I hg hm boot_enumerate (PyProof.Rows.callWith_type1 (thn (ha.run pos pins s σ H _ I h) fun us s1 ⟨vs, H1, I1, r1, q1⟩ => ?_) hs rfl))
  obtain ⟨a, ex, q⟩ := q1
  subst ex
  cases r1 with
  | cons r rr =>
    cases rr
    cases r
    have fp2 : ∀ b ∈ [s1.heap.objs.size + 1, s1.heap.objs.size], FpOk X pins H1 b := fun b hb => by
      have e' : b = s1.heap.objs.size + 1 ∨ b = s1.heap.objs.size := by simpa using hb
      have hle : s1.heap.objs.size ≤ b := by
        rcases e' with z | z
        · rw [z]; exact Nat.le_add_right _ _
        · rw [z]; exact Nat.le_refl _
      exact I1.fpOk hle (I1.hok.fresh hle)
    rcases q with ⟨⟨xs, hq⟩, q⟩ | ⟨⟨xs, hq⟩, q⟩
    · obtain ⟨its, rv, p', hz⟩ := I1.list hq
      refine call_enumerate_list p'.isList fun h' he hit hsz hk => wpAny_pyIter_enum he ?_
      have I2 : Inv X pins σ H1 { s1 with heap := h' } := I1.kept (t' := s1.toks) hk
      exact ⟨s1.heap.objs.size + 1, [s1.heap.objs.size + 1, s1.heap.objs.size], _, _, H1, rfl, I2, turn_enum a (s1.heap.objs.size + 1) s1.heap.objs.size, ⟨⟨.none, he⟩, hit, Nat.succ_ne_self _⟩, fp2, q⟩
    · obtain ⟨its, rv, p', hz⟩ := I1.tuple hq
      refine call_enumT (begins_tuple a its.toArray) (show s1.heap.IsTuple a its.toArray from p') fun h' he hit hsz hk => wpAny_pyIter_enum he ?_
      have I2 : Inv X pins σ H1 { s1 with heap := h' } := I1.kept (t' := s1.toks) hk
      exact ⟨s1.heap.objs.size + 1, [s1.heap.objs.size + 1, s1.heap.objs.size], _, _, H1, rfl, I2, turn_enumT a (s1.heap.objs.size + 1) s1.heap.objs.size, ⟨⟨.none, he⟩, ⟨_, hit, rfl, rfl⟩, Nat.succ_ne_self _⟩, fp2, q⟩
theorem enumD_get : ∀ (ds : List D) (n i : Nat) (d : D), (enumD n ds)[i]? = some d → ∃ x, ds[i]? = some x ∧ d = .tup [.int ((n + i : Nat) : Int), x]
  | [], _, _, _, e => by simp [enumD] at e
  | a :: as, n, 0, d, e => ⟨a, rfl, by simp [enumD] at e; exact e.symm⟩
  | a :: as, n, i + 1, d, e => by
    obtain ⟨x, h1, h2⟩ := enumD_get as (n + 1) i d (by simpa [enumD] using e)
    refine ⟨x, by simpa using h1, ?_⟩
    rw [h2]
    have : n + 1 + i = n + (i + 1) := by omega
    rw [this]
theorem enumD_length : ∀ (ds : List D) (n : Nat), (enumD n ds).length = ds.length
  | [], _ => rfl
  | a :: as, n => by simp [enumD, enumD_length as]
theorem zipD_get : ∀ (as bs : List D) (i : Nat) (d : D), (zipD as bs)[i]? = some d → ∃ x y, as[i]? = some x ∧ bs[i]? = some y ∧ d = .tup [x, y]
  | [], _, _, _, e => by simp [zipD] at e
  | a :: as, [], _, _, e => by simp [zipD] at e
  | a :: as, b :: bs, 0, d, e => ⟨a, b, rfl, rfl, by simp [zipD] at e; exact e.symm⟩
  | a :: as, b :: bs, i + 1, d, e => by
    obtain ⟨x, y, h1, h2, h3⟩ := zipD_get as bs i d (by simpa [zipD] using e)
    exact ⟨x, y, by simpa using h1, by simpa using h2, h3⟩
theorem zipD_length : ∀ (as bs : List D), (zipD as bs).length = min as.length bs.length
  | [], _ => by simp [zipD]
  | a :: as, [] => by simp [zipD]
  | a :: as, b :: bs => by simp [zipD, zipD_length as bs]
section
variable {K : Frag} {cx : Cls2} {S S1 S2 : Hs} {H H1 H2 : Hp}
theorem pair_new {H : Hp} {T : Addr} {x y : V} {d e : D} (hr : Rel K cx S H) (n : H T = none) (rx : RepV K H d x) (ry : RepV K H e y) :
    Rel K cx S (upd H T (.tup [x, y])) ∧ Keep S S H (upd H T (.tup [x, y])) ∧ RepV K (upd H T (.tup [x, y])) (.tup [d, e]) (.ref T) := by
  have t := tupS_new (K := K) (h := .tup [x, y]) n
  exact ⟨hr.upd0 (hr.free n) t, Keep.new n, T, [x, y], rfl, SqT.of upd_same, .cons (RepV.keep t _ _ rx) (.cons (RepV.keep t _ _ ry) .nil)⟩
theorem Later.keep {ok : Sl → Hs → Prop} {G : Hs → Hp → Prop} {P : Addr → Prop} (k : Keep S1 S2 H1 H2) (l : Later K cx S1 H1 ok G P) : Later K cx S2 H2 ok G P := fun Pz hz S H σ' hr kk o =>
  l (fun b => S1 b = none ∧ H1 b ≠ none ∧ P b) (fun b a c d => ⟨a, c, d⟩) S H σ' hr (fun b ⟨a, c, d⟩ => by
    cases q : H1 b with
    | none => exact (c q).elim
    | some o =>
      obtain ⟨h1, h2⟩ := k.kp b o q a
      obtain ⟨h3, h4⟩ := kk b (hz b h2 (by rw [h1]; simp) d)
      exact ⟨h3, by rw [h4, h1]⟩) o
theorem Later.weak {ok ok' : Sl → Hs → Prop} {G : Hs → Hp → Prop} {P P' : Addr → Prop} (hP : ∀ b, P b → P' b) (ho : ∀ σ S, ok' σ S → ok σ S) (l : Later K cx S1 H1 ok G P) : Later K cx S1 H1 ok' G P' := fun Pz hz S H σ' hr kk o =>
  l Pz (fun b a c d => hz b a c (hP b d)) S H σ' hr kk (ho _ _ o)
end
section
variable {X : Cx} {T : Tbl} {c : Nat → List Vx → Hs → VK2 → Prop} {cx : Cls2} (hc : CalMono c)
include hc
theorem walk_enu {it : R} {ea : Expr} {elts : List Expr} {kk : Nat} {p pos tpos : Pos} (hg : Gl X "enumerate") (hm : X.mg "enumerate" = none) (hs : starEach [ea] X.env = [(false, eval ea X.env)])
    (h : PE X ea (liftSrc X.K cx it (wpI T c it))) : PI X (.Tuple elts kk tpos) (.Call (.Name "enumerate" p) [ea] [] pos) (liftI X.K cx (.enu it) (wpI T c (.enu it))) :=
  piImp hc (pi_enumA hg hm (pa_cons h pa_nil hs) hs) fun σ H R ⟨S, σ2, hr, rs, w⟩ => ⟨S, σ2, hr, rs, wpI_mono hc w fun J2 S1 q a H1 hr1 k1 src => ⟨a, rfl, by
    rcases src with ⟨_, ⟨vs, h⟩, lt⟩ | ⟨_, ⟨vs, h⟩, lt⟩
    · refine .inl ⟨⟨vs, h⟩, q (Ite X.K a) H1 hr1 k1 fun Pz hz S H σ' hr k ok i => ?_⟩
      obtain ⟨us, h1, h2⟩ := lt Pz hz S H σ' hr k ok
      refine ⟨fun d e => ?_, fun e => ⟨us, h1, by rw [← h2.length, ← enumD_length J2.items 0]; exact Nat.le_of_eq e⟩⟩
      obtain ⟨x, e1, rfl⟩ := enumD_get _ _ _ _ e
      obtain ⟨v, h3, h4⟩ := h2.get e1
      refine ⟨⟨us, v, h1, h3⟩, fun x' H' y => ?_⟩
      obtain ⟨Tt, v', rfl, n, rfl, y⟩ := y
      have := y us h1
      rw [h3] at this; cases this
      rw [Nat.zero_add]
      exact pair_new hr n rfl h4
    · refine .inr ⟨⟨vs, h⟩, q (IteT X.K a) H1 hr1 k1 fun Pz hz S H σ' hr k ok i => ?_⟩
      obtain ⟨us, h1, h2⟩ := lt Pz hz S H σ' hr k ok
      refine ⟨fun d e => ?_, fun e => ⟨us, h1, by rw [← h2.length, ← enumD_length J2.items 0]; exact e⟩⟩
      obtain ⟨x, e1, rfl⟩ := enumD_get _ _ _ _ e
      obtain ⟨v, h3, h4⟩ := h2.get e1
      refine ⟨⟨us, v, h1, h3⟩, fun x' H' y => ?_⟩
      obtain ⟨Tt, v', rfl, n, rfl, y⟩ := y
      have := y us h1
      rw [h3] at this; cases this
      rw [Nat.zero_add]
      exact pair_new hr n rfl h4⟩⟩
theorem walk_zip {it it' : R} {ea eb : Expr} {elts : List Expr} {kk : Nat} {p pos tpos : Pos} (hg : Gl X "zip") (hm : X.mg "zip" = none) (hs : starEach [ea, eb] X.env = (false, eval ea X.env) :: starEach [eb] X.env) (hpl : (backTo pos (starEach [eb] X.env)).any (·.1) = false) (hs2 : starEach [eb] X.env = [(false, eval eb X.env)])
    (h : PE X ea (liftSrc X.K cx it (wpI T c it))) (h' : PE X eb (liftSrc X.K cx it' (wpI T c it'))) : PI X (.Tuple elts kk tpos) (.Call (.Name "zip" p) [ea, eb] [] pos) (liftI X.K cx (.zip it it') (wpI T c (.zip it it'))) :=
  piImp hc (RZ.pi_zipA hg hm (pa_cons h (pa_cons h' pa_nil hs2) hs) hs hpl) fun σ H R ⟨S, σ2, hr, rs, w⟩ => ⟨S, σ2, hr, rs, wpI_mono hc w fun J2 S1 w a H1 hr1 k1 src => ⟨S1, σ2, hr1, rs.keep k1 hr, wpI_mono hc w fun J3 S2 ⟨tu, ok, q⟩ b H2 hr2 k2 src' => by
    have P1 : ∀ b, (OwnA σ2 σ b → srcA it σ2 σ b) → (OwnA σ2 σ b → srcA (.zip it it') σ2 σ b) := fun b z o => .inl (z o)
    have P2 : ∀ b, (OwnA σ2 σ b → srcA it' σ2 σ b) → (OwnA σ2 σ b → srcA (.zip it it') σ2 σ b) := fun b z o => .inr (z o)
    rcases src with ⟨t1, _, lt⟩ | ⟨t1, _, lt⟩
    · rcases src' with ⟨t2, ⟨vs', h'⟩, lt'⟩ | ⟨t2, _, _⟩
      · have lt := lt.keep k2
        obtain ⟨vs, hv, _⟩ := lt (fun b => S2 b = none ∧ H2 b ≠ none) (fun b z1 z2 _ => ⟨z1, z2⟩) S2 H2 σ2 hr2 (fun b z => ⟨z.1, rfl⟩) ok
        refine ⟨a, b, vs, vs', rfl, .inl ⟨hv, h', q (L2.Itz X.K a b) H2 hr2 (k1.trans k2) fun Pz hz S H σ' hr k ok' i => ?_⟩⟩
        obtain ⟨us, h1, h2⟩ := (lt.weak P1 (fun _ _ z => z)) Pz hz S H σ' hr k ok'.1
        obtain ⟨ws, g1, g2⟩ := (lt'.weak P2 (fun _ _ z => z)) Pz hz S H σ' hr k ok'.2
        refine ⟨fun d e => ?_, fun e => ⟨us, ws, h1, g1, by rw [zipD_length] at e; rw [← h2.length, ← g2.length]; omega⟩⟩
        obtain ⟨x, y, e1, e2, rfl⟩ := zipD_get _ _ _ _ e
        obtain ⟨v, h3, h4⟩ := h2.get e1
        obtain ⟨u, g3, g4⟩ := g2.get e2
        refine ⟨⟨us, ws, v, u, h1, g1, h3, g3⟩, fun x' H' y => ?_⟩
        obtain ⟨Tt, v', u', rfl, n, rfl, y1, y2⟩ := y
        have e3 := y1 us h1
        have e4 := y2 ws g1
        rw [h3] at e3; cases e3
        rw [g3] at e4; cases e4
        exact pair_new hr n h4 g4
      · rw [t1, t2] at tu; cases tu
    · rcases src' with ⟨t2, _, _⟩ | ⟨t2, ⟨vs', h'⟩, lt'⟩
      · rw [t1, t2] at tu; cases tu
      · have lt := lt.keep k2
        obtain ⟨vs, hv, _⟩ := lt (fun b => S2 b = none ∧ H2 b ≠ none) (fun b z1 z2 _ => ⟨z1, z2⟩) S2 H2 σ2 hr2 (fun b z => ⟨z.1, rfl⟩) ok
        refine ⟨a, b, vs, vs', rfl, .inr ⟨hv, h', q (RZ.ItzT X.K a b) H2 hr2 (k1.trans k2) fun Pz hz S H σ' hr k ok' i => ?_⟩⟩
        obtain ⟨us, h1, h2⟩ := (lt.weak P1 (fun _ _ z => z)) Pz hz S H σ' hr k ok'.1
        obtain ⟨ws, g1, g2⟩ := (lt'.weak P2 (fun _ _ z => z)) Pz hz S H σ' hr k ok'.2
        refine ⟨fun d e => ?_, fun e => ⟨us, ws, h1, g1, by rw [zipD_length] at e; rw [← h2.length, ← g2.length]; omega⟩⟩
        obtain ⟨x, y, e1, e2, rfl⟩ := zipD_get _ _ _ _ e
        obtain ⟨v, h3, h4⟩ := h2.get e1
        obtain ⟨u, g3, g4⟩ := g2.get e2
        refine ⟨⟨us, ws, v, u, h1, g1, h3, g3⟩, fun x' H' y => ?_⟩
        obtain ⟨Tt, v', u', rfl, n, rfl, y1, y2⟩ := y
        have e3 := y1 us h1
        have e4 := y2 ws g1
        rw [h3] at e3; cases e3
        rw [g3] at e4; cases e4
        exact pair_new hr n h4 g4⟩⟩
end
noncomputable def Tg.is : Tg → List Nat
  | .nm i => [i]
  | .tp is => is
noncomputable def gNames : List Nat → TGs
  | [] => gNil
  | i :: is => gCons (gName i) (gNames is)
noncomputable def tgG (K : Frag) : Tg → TG
  | .nm i => gName i
  | .tp is => gTup K is.length (gNames is)
theorem bindN_ok {K : Frag} {H : Hp} {Q : L2.St → Hp → Prop} (P : List Nat → Sl → L2.St → Prop) (hP : ∀ i is x v σ2 σ, RepV K H x v → P (i :: is) σ2 σ → P is (σ2.set i (some (.d x))) (σ.set i (some v))) :
    ∀ (is : List Nat) (xs : List D) (vs : List V) (σ2 σ2' : Sl) (σ : L2.St), bindN is xs σ2 = some σ2' → RepL K H xs vs → P is σ2 σ → (∀ σ', P [] σ2' σ' → Q σ' H) → gNames is vs σ H Q
  | [], [], vs, σ2, σ2', σ, e, r, p, q => by
    cases e; cases r
    exact ⟨rfl, q _ p⟩
  | [], x :: xs, vs, σ2, σ2', σ, e, r, p, q => by cases e
  | i :: is, [], vs, σ2, σ2', σ, e, r, p, q => by cases e
  | i :: is, x :: xs, vs, σ2, σ2', σ, e, r, p, q => by
    obtain ⟨v, vr, rfl, rv, rr⟩ := r
    exact ⟨v, vr, rfl, bindN_ok P hP is xs vr _ _ _ e rr (hP _ _ _ _ _ _ rv p) q⟩
theorem bindN_len {K : Frag} {H : Hp} : ∀ (is : List Nat) (xs : List D) (vs : List V) (σ2 σ2' : Sl), bindN is xs σ2 = some σ2' → RepL K H xs vs → vs.length = is.length
  | [], [], vs, σ2, σ2', e, r => by cases r; rfl
  | [], x :: xs, vs, σ2, σ2', e, r => by cases e
  | i :: is, [], vs, σ2, σ2', e, r => by cases e
  | i :: is, x :: xs, vs, σ2, σ2', e, r => by
    obtain ⟨v, vr, rfl, rv, rr⟩ := r
    simp [bindN_len is xs vr _ _ e rr]
theorem bindT_ok {K : Frag} {H : Hp} {Q : L2.St → Hp → Prop} {tg : Tg} {x : D} {v : V} {σ2 : Sl} {σ : L2.St} {Z : Sl → Prop} (P : List Nat → Sl → L2.St → Prop) (hP : ∀ i is x v σ2 σ, RepV K H x v → P (i :: is) σ2 σ → P is (σ2.set i (some (.d x))) (σ.set i (some v)))
    (rx : RepV K H x v) (p : P tg.is σ2 σ) (w : bindT tg x σ2 Z) (q : ∀ σ2' σ', P [] σ2' σ' → Z σ2' → Q σ' H) : tgG K tg v σ H Q := by
  unfold bindT at w
  split at w
  · exact q _ _ (hP _ _ _ _ _ _ rx p) w
  · obtain ⟨σ', e, w⟩ := w
    obtain ⟨t, vs, rfl, hs, r⟩ := rx
    exact ⟨t, vs, rfl, hs, bindN_len _ _ _ _ _ e r, bindN_ok P hP _ _ _ _ _ _ e r p fun σ3 p3 => q _ _ p3 w⟩
  · exact w.elim
theorem wipe_get (σ : L2.St) : ∀ (vs : List Nat) (i : Nat), i ∉ vs → (wipe σ vs)[i]? = σ[i]?
  | [], _, _ => rfl
  | v :: vs, i, h => by
    unfold wipe
    rw [List.getElem?_set_ne (fun e : v = i => h (by rw [e]; exact List.mem_cons_self))]
    exact wipe_get σ vs i fun z => h (List.mem_cons_of_mem _ z)
theorem wipe_set (σ : L2.St) {i : Nat} {v : Option V} : ∀ (vs : List Nat), i ∈ vs → wipe (σ.set i v) vs = wipe σ vs
  | [], h => by cases h
  | u :: vs, h => by
    unfold wipe
    by_cases e : i = u
    · subst e
      by_cases m : i ∈ vs
      · rw [wipe_set σ vs m]
      · have key : ∀ (ws : List Nat), (wipe (σ.set i v) ws).set i none = (wipe σ ws).set i none := fun ws => by
          induction ws with
          | nil => unfold wipe; rw [List.set_set]
          | cons w ws ih =>
            unfold wipe
            by_cases ew : w = i
            · subst ew; rw [List.set_set, List.set_set]; exact ih
            · rw [List.set_comm _ _ ew, List.set_comm _ _ ew, ih]
        exact key vs
    · have m : i ∈ vs := (List.mem_cons.mp h).resolve_left e
      rw [wipe_set σ vs m]
theorem wipe_wipe (σ : L2.St) (vs : List Nat) : wipe (wipe σ vs) vs = wipe σ vs := by
  have h : ∀ (ws : List Nat), (∀ i ∈ ws, i ∈ vs) → wipe (wipe σ ws) vs = wipe σ vs := fun ws => by
    induction ws with
    | nil => intro _; rfl
    | cons w ws ih =>
      intro z
      rw [show wipe σ (w :: ws) = (wipe σ ws).set w none from rfl, wipe_set _ _ (z w List.mem_cons_self)]
      exact ih fun i m => z i (List.mem_cons_of_mem _ m)
  exact h vs fun _ z => z
section
variable {X : Cx} {T : Tbl} {c : Nat → List Vx → Hs → VK2 → Prop} {cx : Cls2} (hc : CalMono c)
include hc
theorem lc_ok {tg : Tg} {it elt tst : R} {tt : TT} {te : TE} {wi : TI} {vs : List Nat} (hv : vs = tg.is) (ht : ∀ σ H Q, liftT X.K cx (wpE T c tst) σ H Q → tt σ H Q) (he : ∀ σ H Q, liftE X.K cx (wpE T c elt) σ H Q → te σ H Q)
    (hi : ∀ σ H R, liftI X.K cx it (wpI T c it) σ H R → wi σ H R) {σ : L2.St} {H : Hp} {Q : VK} (w : liftE X.K cx (wpE T c (.comp tg elt it tst)) σ H Q) : tLc wi (tgG X.K tg) tt te vs σ H Q := by
  obtain ⟨S, σ2, hr, rs, w⟩ := w
  refine hi _ _ _ ⟨S, σ2, hr, rs, wpI_mono hc w fun J S1 w JJ H1 hr1 k1 lt Dl hD => ?_⟩
  have rs1 := rs.keep k1 hr
  have lt : ∀ S' H', Rel X.K cx S' H' → Keep S1 S' H1 H' → J.ok σ2 S' → ItG X.K cx JJ J.items S' H' := fun S' H' hr' k' o =>
    lt (fun b => S1 b = none ∧ H1 b ≠ none) (fun b z1 z2 _ => ⟨z1, z2⟩) S' H' σ2 hr' (fun b ⟨z1, z2⟩ => by
      cases q : H1 b with
      | none => exact (z2 q).elim
      | some o => exact ⟨(k'.kp b o q z1).2, (k'.kp b o q z1).1⟩) o
  refine ⟨fun i m H' => m = J.items.length - i ∧ i ≤ J.items.length ∧ ∃ S' acc vacc, Rel X.K cx S' H' ∧ Keep S1 S' H1 H' ∧ H' Dl = some (.lst vacc) ∧ S' Dl = none ∧ RepL X.K H' acc vacc ∧
    compL tg J.ok (fun σ' S' K => wpE T c elt σ' S' (one1 fun y S2 => bx y S2 K)) (fun σ' S' K => wpE T c tst σ' S' (one1 (tstK K))) σ2 (J.items.drop i) acc S' (fun ys S2 => kE X.K cx S H Q [.vl ys] S2), ⟨J.items.length, by simp, Nat.zero_le _, S1, [], [], ?_, ?_, upd_same, hr1.free hD, rfl, by simpa using w⟩, ?_⟩
  · exact hr1.upd0 (hr1.free hD) (tupS_new hD)
  · exact Keep.new hD
  rintro i m H' ⟨rfl, hle, S', acc, vacc, hr', k', hDl, sD, ra, w⟩
  by_cases hlt : i < J.items.length
  · right
    rw [List.drop_eq_getElem_cons hlt] at w
    obtain ⟨ok, w⟩ := w
    obtain ⟨hgo, hy⟩ := (lt S' H' hr' k' ok i).1 _ (List.getElem?_eq_getElem hlt)
    refine ⟨hgo, fun H4 => ∃ S' acc vacc, Rel X.K cx S' H4 ∧ Keep S1 S' H1 H4 ∧ H4 Dl = some (.lst vacc) ∧ S' Dl = none ∧ RepL X.K H4 acc vacc ∧
      compL tg J.ok (fun σ' S' K => wpE T c elt σ' S' (one1 fun y S2 => bx y S2 K)) (fun σ' S' K => wpE T c tst σ' S' (one1 (tstK K))) σ2 (J.items.drop (i + 1)) acc S' (fun ys S2 => kE X.K cx S H Q [.vl ys] S2), fun H4 z => ⟨J.items.length - (i + 1), by omega, rfl, hlt, z⟩, fun x H5 y => ?_⟩
    obtain ⟨hr5, k5, rx⟩ := hy x H5 y
    have k15 := k'.trans k5
    have rs5 := rs1.keep k15 hr1
    obtain ⟨hD5, _⟩ := k5.kp _ _ hDl sD
    have ra5 := ra.keep (k5.tups hr')
    refine bindT_ok (fun rem σa σb => (∀ j ∈ rem, j ∈ vs) ∧ wipe σb vs = wipe σ vs ∧ σa.length = σb.length ∧ ∀ (j : Nat), j ∈ rem ∨ ∀ x : Vx, σa[j]? = some (some x) → ∃ v, σb[j]? = some (some v) ∧ RepX X.K H5 S' x v)
      (fun j js x v σa σb rv ⟨p1, p2, p3, p4⟩ => ⟨fun l z => p1 l (List.mem_cons_of_mem _ z), by rw [wipe_set _ _ (p1 j List.mem_cons_self)]; exact p2, by simp [p3], fun l => ?_⟩) rx ⟨fun j z => by rw [hv]; exact z, wipe_wipe σ vs, by rw [wipe_length]; exact rs5.1, fun j => ?_⟩ w fun σa σb ⟨_, p2, p3, p4⟩ w => ?_
    · by_cases e : l = j
      · subst e
        refine .inr fun y e => ?_
        by_cases hl : l < σa.length
        · rw [List.getElem?_set_self hl] at e
          cases e
          exact ⟨v, by rw [List.getElem?_set_self (p3 ▸ hl)], rv⟩
        · rw [List.getElem?_eq_none (by simpa using Nat.le_of_not_lt hl)] at e
          cases e
      · rcases p4 l with z | z
        · exact .inl ((List.mem_cons.mp z).resolve_left e)
        · refine .inr fun y ey => ?_
          rw [List.getElem?_set_ne (Ne.symm e)] at ey ⊢
          exact z y ey
    · by_cases m : j ∈ vs
      · exact .inl (hv ▸ m)
      · refine .inr fun y e => ?_
        rw [wipe_get _ _ _ m]
        exact rs5.2 j y e
    have rsb : RelX X.K S' H5 σa σb := ⟨p3, fun j y e => (p4 j).elim (fun z => by cases z) fun z => z y e⟩
    refine ⟨p2, ht _ _ _ (stepT hc hr5 rsb w fun b S6 H6 hr6 k6 rs6 w => ?_)⟩
    obtain ⟨hD6, sD6⟩ := k6.kp _ _ hD5 sD
    have ra6 := ra5.keep (k6.tups hr5)
    cases b with
    | false =>
      rw [if_neg (by decide)]
      exact ⟨S6, acc, vacc, hr6, k15.trans k6, hD6, sD6, ra6, w.f rfl⟩
    | true =>
      rw [if_pos rfl]
      refine he _ _ _ (stepE hc hr6 rs6 (w.t rfl) fun y S7 v H7 hr7 k7 rs7 r7 w => ?_)
      obtain ⟨hD7, sD7⟩ := k7.kp _ _ hD6 sD6
      have ra7 := ra6.keep (k7.tups hr6)
      have tk : TupS X.K H7 (upd H7 Dl (.lst (vacc ++ [v]))) := tupS_upd fun o e => by rw [hD7] at e; cases e; rfl
      have k17 := (k15.trans k6).trans k7
      have fin : ∀ (d : D) (S8 : Hs), Rel X.K cx S8 H7 → (∀ b o, H1 b = some o → S7 b = none → S8 b = none) → S8 Dl = none → RepV X.K H7 d v → acc.length < sizeLine → compL tg J.ok (fun σ' S' K => wpE T c elt σ' S' (one1 fun y S2 => bx y S2 K)) (fun σ' S' K => wpE T c tst σ' S' (one1 (tstK K))) σ2 (J.items.drop (i + 1)) (acc ++ [d]) S8 (fun ys S2 => kE X.K cx S H Q [.vl ys] S2) →
          ∃ acc', H7 Dl = some (.lst acc') ∧ acc'.length < sizeLine ∧ ∃ S' acc vacc, Rel X.K cx S' (upd H7 Dl (.lst (acc' ++ [v]))) ∧ Keep S1 S' H1 (upd H7 Dl (.lst (acc' ++ [v]))) ∧ (upd H7 Dl (.lst (acc' ++ [v]))) Dl = some (.lst vacc) ∧ S' Dl = none ∧ RepL X.K (upd H7 Dl (.lst (acc' ++ [v]))) acc vacc ∧
            compL tg J.ok (fun σ' S' K => wpE T c elt σ' S' (one1 fun y S2 => bx y S2 K)) (fun σ' S' K => wpE T c tst σ' S' (one1 (tstK K))) σ2 (J.items.drop (i + 1)) acc S' (fun ys S2 => kE X.K cx S H Q [.vl ys] S2) := fun d S8 hr8 hk sD8 rv hz w =>
        ⟨vacc, hD7, by rw [← ra.length]; exact hz, S8, acc ++ [d], vacc ++ [v], hr8.upd0 sD8 tk, ⟨fun b o e n => ?_, fun b e => ?_⟩, upd_same, sD8, (ra7.keep tk).append (.cons (RepV.keep tk _ _ rv) .nil), w⟩
      · cases y with
        | d y => exact fin _ S7 hr7 (fun b o _ z => z) sD7 r7.1 w.1 w.2
        | vl ds =>
          obtain ⟨a, us, rfl, ha, sa, ru⟩ := r7.1
          obtain ⟨a', ea, na⟩ := r7.2 rfl
          cases ea
          have ne : Dl ≠ a := fun z => by subst z; rw [hD6] at na; cases na
          have w := w a sa
          refine fin (.ref a) (su S7 a (.lst _)) (hr7.box ⟨us, ha, ru⟩) (fun b o e z => ?_) (by rw [su_ne ne]; exact sD7) rfl w.1 w.2
          have nb : b ≠ a := fun z => by
            subst z
            have h1 := (k15.trans k6).up _ na
            rw [e] at h1; cases h1
          rw [su_ne nb]; exact z
        | vd ds =>
          obtain ⟨a, us, rfl, ha, sa, ru⟩ := r7.1
          obtain ⟨a', ea, na⟩ := r7.2 rfl
          cases ea
          have ne : Dl ≠ a := fun z => by subst z; rw [hD6] at na; cases na
          have w := w a sa
          refine fin (.ref a) (su S7 a (.dic _)) (hr7.box ⟨us, ha, ru⟩) (fun b o e z => ?_) (by rw [su_ne ne]; exact sD7) rfl w.1 w.2
          have nb : b ≠ a := fun z => by
            subst z
            have h1 := (k15.trans k6).up _ na
            rw [e] at h1; cases h1
          rw [su_ne nb]; exact z
        | bw ds => exact w.elim
        | fz ds => exact w.elim
        | bd ds => exact w.elim
        | st ds => exact w.elim
      · obtain ⟨h1, h2⟩ := k17.kp b o e n
        refine ⟨?_, hk b o e h2⟩
        rw [upd_ne (fun z => by subst z; rw [e] at hD; cases hD)]
        exact h1
      · refine k17.up b ?_
        by_cases z : b = Dl
        · subst z; rw [upd_same] at e; cases e
        · rw [upd_ne z] at e; exact e
  · have e : i = J.items.length := by omega
    subst e
    rw [List.drop_length] at w
    obtain ⟨ok, x, ex, q⟩ := w
    cases ex
    refine .inl ⟨(lt S' H' hr' k' ok _).2 rfl, q _ _ hr' (k1.trans k') ⟨⟨Dl, vacc, rfl, hDl, sD, ra⟩, fun _ => ⟨Dl, rfl, k1.up _ hD⟩⟩⟩
end
section
variable {X : Cx} {T : Tbl} {c : Nat → List Vx → Hs → VK2 → Prop} {cx : Cls2} (hc : CalMono c)
include hc
theorem ptsImp {ifs : List Expr} {t t' : TT} (h : PTs X ifs t) (i : ∀ σ H Q, t' σ H Q → t σ H Q) : PTs X ifs t' := ⟨fun pins s σ H Q I w => h.run pins s σ H Q I (i _ _ _ w)⟩
theorem pts_tt : PTs X [] (liftT X.K cx (wpE T c (.b true))) := ptsImp hc pts_nil fun σ H Q ⟨S, σ2, hr, rs, w⟩ => w H hr .refl
theorem snd_comp {tg : Tg} {it elt tst : R} {eelt etg eiter : Expr} {ifs : List Expr} {scope : Scope} {own : List (Str × Nat)} {pos : Pos} (hcalm : X.calm = true) (hN : X.N.Nodup) (hi : PI X etg eiter (liftI X.K cx it (wpI T c it))) (ok : BlkOk X.N X.env.scope scope own) (hv : own.map (·.2) = tg.is)
    (hg : ∀ (s : Shared) (H : Hp) (C : Addr) (cl : List (Str × Addr)) (fp : List Addr), PG (X.blk s H scope (compEnvC scope cl C X.env) fp) etg (tgG X.K tg))
    (ht : ∀ (s : Shared) (H : Hp) (C : Addr) (cl : List (Str × Addr)) (fp : List Addr), PTs (X.blk s H scope (compEnvC scope cl C X.env) fp) ifs (liftT X.K cx (wpE T c tst)))
    (he : ∀ (s : Shared) (H : Hp) (C : Addr) (cl : List (Str × Addr)) (fp : List Addr), PE (X.blk s H scope (compEnvC scope cl C X.env) fp) eelt (liftE X.K cx (wpE T c elt)))
    (hs : ∀ x, foldedSetIterable eiter X.env x = pure x) : PE X (.ListComp eelt [⟨etg, eiter, ifs, 0⟩] scope pos) (liftE X.K cx (wpE T c (.comp tg elt it tst))) :=
  peImp (pe_lc hcalm hN hi ok hg ht he hs) fun σ H Q w => lc_ok hc hv (fun _ _ _ h => h) (fun _ _ _ h => h) (fun _ _ _ h => h) w
end
structure Bs where
  pd : Addr → Prop
  hb : Hp
  h0 : Hp
structure Bs.Le (B B' : Bs) : Prop where
  pd : ∀ b, B.pd b → B'.pd b ∧ B'.hb b = B.hb b
  h0 : B'.h0 = B.h0
theorem Bs.Le.refl {B : Bs} : B.Le B := ⟨fun _ h => ⟨h, rfl⟩, rfl⟩
theorem Bs.Le.trans {A B C : Bs} (h : A.Le B) (k : B.Le C) : A.Le C := ⟨fun b z => ⟨(k.pd b (h.pd b z).1).1, (k.pd b (h.pd b z).1).2.trans (h.pd b z).2⟩, k.h0.trans h.h0⟩
structure KeepB (B : Bs) (S : Hs) (H : Hp) : Prop where
  st : ∀ b, B.pd b → S b = none ∧ H b = B.hb b ∧ H b ≠ none
  hn : ∀ b, H b = none → B.h0 b = none
noncomputable def lent : Vx → Bool
  | .bw _ => true
  | .bd _ => true
  | _ => false
structure RelS (B : Bs) (K : Frag) (S : Hs) (H : Hp) (σ2 : Sl) (σ : L2.St) : Prop where
  rx : RelX K S H σ2 σ
  ow : ∀ (i : Nat) (x : Vx) (a : Addr), σ2[i]? = some (some x) → own x = true → σ[i]? = some (some (.ref a)) → ¬ B.pd a ∧ B.h0 a = none ∧ ∀ (j : Nat) (y : Vx), σ2[j]? = some (some y) → own y = true → σ[j]? = some (some (.ref a)) → j = i
  lt : ∀ (i : Nat) (x : Vx) (a : Addr), σ2[i]? = some (some x) → lent x = true → σ[i]? = some (some (.ref a)) → B.pd a
section
variable {K : Frag} {cx : Cls2} {S S' S1 : Hs} {H H' H1 H0 : Hp} {σ2 : Sl} {σ : L2.St} {B B' : Bs}
theorem KeepB.le (l : B.Le B') (k : KeepB B' S H) : KeepB B S H := ⟨fun b z => let ⟨h1, h2⟩ := l.pd b z; let ⟨g1, g2, g3⟩ := k.st b h1; ⟨g1, g2.trans h2, g3⟩, fun b z => by rw [← l.h0]; exact k.hn b z⟩
theorem KeepB.keep (k : Keep S S' H H') (kb : KeepB B S H) : KeepB B S' H' := ⟨fun b z => by
  obtain ⟨h1, h2, h3⟩ := kb.st b z
  cases q : H b with
  | none => exact (h3 q).elim
  | some o =>
    obtain ⟨g1, g2⟩ := k.kp b o q h1
    exact ⟨g2, by rw [g1, ← h2, q], by rw [g1]; simp⟩, fun b z => kb.hn b (k.up b z)⟩
theorem RelS.keep (k : Keep S S' H H') (hr : Rel K cx S H) (r : RelS B K S H σ2 σ) : RelS B K S' H' σ2 σ := ⟨r.rx.keep k hr, r.ow, r.lt⟩
theorem RelX.ownH (r : RelX K S H σ2 σ) {i : Nat} {x : Vx} {a : Addr} (e : σ2[i]? = some (some x)) (o : own x = true) (e' : σ[i]? = some (some (.ref a))) : H a ≠ none ∧ S a = none := by
  obtain ⟨v, h1, h2⟩ := r.2 i x e
  rw [e'] at h1; cases h1
  cases x with
  | vl ds => obtain ⟨b, us, eb, h, n, _⟩ := h2; cases eb; exact ⟨by rw [h]; simp, n⟩
  | vd ds => obtain ⟨b, us, eb, h, n, _⟩ := h2; cases eb; exact ⟨by rw [h]; simp, n⟩
  | _ => cases o
theorem RelS.set {i : Nat} {x : Vx} {v : V} (r : RelS B K S H σ2 σ) (rx : RepX K H S x v) (ho : own x = true → ∀ a, v = .ref a → ¬ B.pd a ∧ B.h0 a = none ∧ ∀ (j : Nat) (y : Vx), j ≠ i → σ2[j]? = some (some y) → own y = true → σ[j]? ≠ some (some (.ref a)))
    (hl : lent x = true → ∀ a, v = .ref a → B.pd a) : RelS B K S H (σ2.set i (some x)) (σ.set i (some v)) := by
  have at_i : ∀ {y : Vx}, (σ2.set i (some x))[i]? = some (some y) → y = x ∧ i < σ2.length := fun {y} e => by
    by_cases hl : i < σ2.length
    · rw [List.getElem?_set_self hl] at e; cases e; exact ⟨rfl, hl⟩
    · rw [List.getElem?_eq_none (by simpa using Nat.le_of_not_lt hl)] at e; cases e
  have len := r.rx.1
  refine ⟨⟨by simp [len], fun j y e => ?_⟩, fun j y a e o e' => ?_, fun j y a e o e' => ?_⟩
  · by_cases z : j = i
    · subst z
      obtain ⟨rfl, hlt⟩ := at_i e
      exact ⟨v, by rw [List.getElem?_set_self (len ▸ hlt)], rx⟩
    · rw [List.getElem?_set_ne (Ne.symm z)] at e ⊢
      exact r.rx.2 j y e
  · by_cases z : j = i
    · subst z
      obtain ⟨rfl, hlt⟩ := at_i e
      rw [List.getElem?_set_self (len ▸ hlt)] at e'
      cases e'
      obtain ⟨h1, h2, h3⟩ := ho o a rfl
      refine ⟨h1, h2, fun k y ek ok ek' => ?_⟩
      by_cases zk : k = j
      · exact zk
      · rw [List.getElem?_set_ne (Ne.symm zk)] at ek ek'
        exact (h3 k y zk ek ok ek').elim
    · rw [List.getElem?_set_ne (Ne.symm z)] at e e'
      obtain ⟨h1, h2, h3⟩ := r.ow j y a e o e'
      refine ⟨h1, h2, fun k w ek ok ek' => ?_⟩
      by_cases zk : k = i
      · subst zk
        obtain ⟨rfl, hlt⟩ := at_i ek
        rw [List.getElem?_set_self (len ▸ hlt)] at ek'
        cases ek'
        exact ((ho ok a rfl).2.2 j y z e o e').elim
      · rw [List.getElem?_set_ne (Ne.symm zk)] at ek ek'
        exact h3 k w ek ok ek'
  · by_cases z : j = i
    · subst z
      obtain ⟨rfl, hlt⟩ := at_i e
      rw [List.getElem?_set_self (len ▸ hlt)] at e'
      cases e'
      exact hl o a rfl
    · rw [List.getElem?_set_ne (Ne.symm z)] at e e'
      exact r.lt j y a e o e'
theorem RelS.setD {i : Nat} {d : D} {v : V} (r : RelS B K S H σ2 σ) (rx : RepV K H d v) : RelS B K S H (σ2.set i (some (.d d))) (σ.set i (some v)) := r.set rx (fun e => by cases e) (fun e => by cases e)
theorem RelS.setN {i : Nat} {x : Vx} {v : V} (kb : KeepB B S H) (r : RelS B K S H σ2 σ) (k : Keep S S1 H H1) (hr : Rel K cx S H) (rx : RepR K H H1 S1 x v) (hl : lent x = false) : RelS B K S1 H1 (σ2.set i (some x)) (σ.set i (some v)) :=
  (r.keep k hr).set rx.1 (fun o a e => by
    obtain ⟨a', e', n⟩ := rx.2 o
    rw [e] at e'; cases e'
    exact ⟨fun p => (kb.st a p).2.2 n, kb.hn a n, fun j y ne ej oj ej' => (r.rx.ownH ej oj ej').1 n⟩) (fun e => by rw [hl] at e; cases e)
theorem stor_of {x : Vx} {P : Prop} (h : stor x P) : lent x = false ∧ P := by
  cases x <;> first | exact ⟨rfl, h⟩ | exact h.elim
noncomputable abbrev WS := Sl → Hs → SK2 → VK2 → SK2 → SK2 → Prop
noncomputable def nxS (K : Frag) (cx : Cls2) (B : Bs) (N : L2.St → Hp → Prop) : SK2 := fun σ2 S => ∀ B' σ H, B.Le B' → Rel K cx S H → RelS B' K S H σ2 σ → KeepB B' S H → N σ H
noncomputable def rtS (K : Frag) (cx : Cls2) (B : Bs) (N : V → Hp → Prop) : VK2 := fun x S => ∀ B' v H, B.Le B' → Rel K cx S H → KeepB B' S H → RepX K H S x v → (own x = true → ∃ a, v = .ref a ∧ B.h0 a = none) → N v H
noncomputable def liftS (K : Frag) (cx : Cls2) (w : WS) : TS := fun D σ H => ∃ B S σ2, Rel K cx S H ∧ RelS B K S H σ2 σ ∧ KeepB B S H ∧ w σ2 S (nxS K cx B D.nx) (rtS K cx B D.rt) (nxS K cx B D.bk) (nxS K cx B D.ct)
theorem nxS.le {N : L2.St → Hp → Prop} (l : B.Le B') {σ2 : Sl} {S : Hs} (h : nxS K cx B N σ2 S) : nxS K cx B' N σ2 S := fun B2 σ H l2 => h B2 σ H (l.trans l2)
theorem rtS.le {N : V → Hp → Prop} (l : B.Le B') {x : Vx} {S : Hs} (h : rtS K cx B N x S) : rtS K cx B' N x S := fun B2 v H l2 hr kb r o => h B2 v H (l.trans l2) hr kb r fun e => let ⟨a, h1, h2⟩ := o e; ⟨a, h1, by rw [← l.h0]; exact h2⟩
end
section
variable {X : Cx} {T : Tbl} {c : Nat → List Vx → Hs → VK2 → Prop} {cx : Cls2}
theorem psImp {st : Stmt} {t t' : TS} (h : PS X st t) (i : ∀ D σ H, t' D σ H → t D σ H) : PS X st t' := ⟨fun pins s σ H D I w => h.run pins s σ H D I (i _ _ _ w)⟩
theorem pssImp {st : List Stmt} {t t' : TS} (h : PSs X st t) (i : ∀ D σ H, t' D σ H → t D σ H) : PSs X st t' := ⟨fun pins s σ H D I w => h.run pins s σ H D I (i _ _ _ w)⟩
variable (hc : CalMono c)
include hc
theorem stepSE {K : Frag} {S : Hs} {H : Hp} {σ2 : Sl} {σ : L2.St} {B : Bs} {r : R} {P : VK2} {Q : VK} (hr : Rel K cx S H) (rs : RelS B K S H σ2 σ) (kb : KeepB B S H) (w : wpE T c r σ2 S (one1 P))
    (h : ∀ x S1 v H1, Rel K cx S1 H1 → Keep S S1 H H1 → RelS B K S1 H1 σ2 σ → KeepB B S1 H1 → RepR K H H1 S1 x v → P x S1 → Q v H1) : liftE K cx (wpE T c r) σ H Q :=
  stepE hc hr rs.rx w fun x S1 v H1 hr1 k1 rs1 r1 p => h x S1 v H1 hr1 k1 (rs.keep k1 hr) (kb.keep k1) r1 p
theorem st_seq {a r : R} {st : Stmt} {rest : List Stmt} (h1 : PS X st (liftS X.K cx (wpS T c a))) (h2 : PSs X rest (liftS X.K cx (wpS T c r))) : PSs X (st :: rest) (liftS X.K cx (wpS T c (.seq a r))) :=
  pssImp (pss_cons h1 h2) fun D σ H ⟨B, S, σ2, hr, rs, kb, w⟩ => ⟨B, S, σ2, hr, rs, kb, wpS_mono hc (fun σ' S' w B' σ1 H1 l hr1 rs1 kb1 => ⟨B', S', σ', hr1, rs1, kb1, wpS_mono hc (fun _ _ => nxS.le l) (fun _ _ => rtS.le l) (fun _ _ => nxS.le l) (fun _ _ => nxS.le l) w⟩)
    (fun _ _ z => z) (fun _ _ z => z) (fun _ _ z => z) w⟩
theorem st_skip : PSs X [] (liftS X.K cx (wpS T c .skip)) := pssImp pss_nil fun D σ H ⟨B, S, σ2, hr, rs, kb, w⟩ => w B σ H .refl hr rs kb
theorem st_pass {pos : Pos} : PS X (.Pass pos) (liftS X.K cx (wpS T c .skip)) := psImp ps_pass fun D σ H ⟨B, S, σ2, hr, rs, kb, w⟩ => w B σ H .refl hr rs kb
theorem st_brk {pos : Pos} : PS X (.Break pos) (liftS X.K cx (wpS T c .brk)) := psImp ps_break fun D σ H ⟨B, S, σ2, hr, rs, kb, w⟩ => w B σ H .refl hr rs kb
theorem st_cnt {pos : Pos} : PS X (.Continue pos) (liftS X.K cx (wpS T c .cnt)) := psImp ps_continue fun D σ H ⟨B, S, σ2, hr, rs, kb, w⟩ => w B σ H .refl hr rs kb
theorem st_never {st : Stmt} : PS X st (liftS X.K cx (wpS T c .never)) := psImp ps_never fun D σ H ⟨B, S, σ2, hr, rs, kb, w⟩ => w
theorem st_nevers {st : List Stmt} : PSs X st (liftS X.K cx (wpS T c .never)) := pssImp pss_never fun D σ H ⟨B, S, σ2, hr, rs, kb, w⟩ => w
theorem st_expr {e : R} {ee : Expr} {pos : Pos} (he : PE X ee (liftE X.K cx (wpE T c e))) (hs : swapsWith ee none pos.line X.env = pure false) : PS X (.Expr ee pos) (liftS X.K cx (wpS T c (.expr e))) :=
  psImp (ps_expr he hs) fun D σ H ⟨B, S, σ2, hr, rs, kb, w⟩ => stepSE hc hr rs kb w fun x S1 v H1 hr1 k1 rs1 kb1 r1 w => w B σ H1 .refl hr1 rs1 kb1
theorem st_set {i : Nat} {e : R} {st : Stmt} {te : TE} (h : PS X st (tAsg te (gName i))) (ht : ∀ σ H Q, liftE X.K cx (wpE T c e) σ H Q → te σ H Q) : PS X st (liftS X.K cx (wpS T c (.set i e))) :=
  psImp h fun D σ H ⟨B, S, σ2, hr, rs, kb, w⟩ => ht _ _ _ (stepSE hc hr rs kb w fun x S1 v H1 hr1 k1 rs1 kb1 r1 w => by
    obtain ⟨hl, w⟩ := stor_of w
    exact w B _ H1 .refl hr1 (rs.setN kb k1 hr r1 hl) kb1)
noncomputable def gSeq (K : Frag) (n : Nat) (t : TGs) : TG := fun v σ H Q => ∃ a xs, v = .ref a ∧ (SqL K H a xs ∨ SqT K H a xs) ∧ xs.length = n ∧ t xs σ H Q
omit hc in
theorem pg_seq {es : List Expr} {k : Nat} {t : TGs} {n : Nat} {pos : Pos} (hcalm : X.calm = true) (h : PGs X es t) (hn : (assignEach es X.env).length = n) (hst : (assignEach es X.env).findIdx? (·.1) = none) : PG X (.Tuple es k pos) (gSeq X.K n t) :=
  ⟨fun pins s σ H v u Q I r ⟨a, xs, e, hq, hl, hw⟩ => by
    rcases hq with hq | hq
    · exact (pg_lst hcalm h hn hst).run pins s σ H v u Q I r ⟨a, xs, e, hq, hl, hw⟩
    · exact (pg_tup hcalm h hn hst).run pins s σ H v u Q I r ⟨a, xs, e, hq, hl, hw⟩⟩
theorem st_setT {is : List Nat} {e : R} {st : Stmt} (h : PS X st (tAsg (liftE X.K cx (wpE T c e)) (gSeq X.K is.length (gNames is)))) : PS X st (liftS X.K cx (wpS T c (.setT is e))) :=
  psImp h fun D σ H ⟨B, S, σ2, hr, rs, kb, w⟩ => stepSE hc hr rs kb w fun x S1 v H1 hr1 k1 rs1 kb1 r1 w => by
    obtain ⟨cn, ⟨ds, e1, σ', e2, w⟩, hcn⟩ := view_of hr1 r1.1 w
    have key : ∀ (a : Addr) (vs : List V), v = .ref a → (SqL X.K H1 a vs ∨ SqT X.K H1 a vs) → RepL X.K H1 ds vs → gSeq X.K is.length (gNames is) v σ H1 D.nx := fun a vs ev hs r =>
      ⟨a, vs, ev, hs, bindN_len _ _ _ _ _ e2 r, bindN_ok (fun _ σa σb => RelS B X.K S1 H1 σa σb) (fun i is x v σa σb rv p => p.setD rv) _ _ _ _ _ _ e2 r rs1 fun σb p => w B σb H1 .refl hr1 p kb1⟩
    cases cn with
    | l ds' => cases e1; obtain ⟨p, vs, ev, h, r⟩ := hcn; exact key p vs ev (.inl (SqL.of h)) r
    | f ds' => cases e1; obtain ⟨p, vs, ev, h, r⟩ := hcn; exact key p vs ev (.inl h) r
    | t ds' => cases e1; obtain ⟨p, vs, ev, h, r⟩ := hcn; exact key p vs ev (.inr h) r
    | _ => cases e1
end
theorem lend_idem (x : Vx) : lendX (lendX x) = lendX x := by cases x <;> rfl
theorem lend_own {x : Vx} (h : own (lendX x) = true) : lendX x = x := by cases x <;> first | rfl | cases h
theorem lend_lb (x : Vx) : lentB (lendX x) = lentB x := by cases x <;> rfl
theorem RepX.lend {K : Frag} {H : Hp} {S : Hs} {x : Vx} {v : V} (r : RepX K H S x v) : RepX K H S (lendX x) v := by cases x <;> exact r
theorem dem_itv (i : Nat) (σ2 : Sl) : (dem (.itv i) σ2).length = σ2.length ∧ (∀ (j : Nat) (y : Vx), (dem (.itv i) σ2)[j]? = some (some y) → ∃ x, σ2[j]? = some (some x) ∧ (y = lendX x ∨ (j ≠ i ∧ y = x))) ∧ ∀ (j : Nat) (x : Vx), σ2[j]? = some (some x) → ∃ y, (dem (.itv i) σ2)[j]? = some (some y) ∧ (y = x ∨ y = lendX x) := by
  show (match σ2[i]? with | some (some x) => σ2.set i (some (lendX x)) | _ => σ2 : Sl).length = _ ∧ (∀ (j : Nat) (y : Vx), (match σ2[i]? with | some (some x) => σ2.set i (some (lendX x)) | _ => σ2 : Sl)[j]? = _ → _) ∧ ∀ (j : Nat) (x : Vx), _ → ∃ y, (match σ2[i]? with | some (some x) => σ2.set i (some (lendX x)) | _ => σ2 : Sl)[j]? = _ ∧ _
  split
  · rename_i x0 e0
    have hi := (List.getElem?_eq_some_iff.mp e0).1
    refine ⟨by simp, fun j y e => ?_, fun j x e => ?_⟩
    · by_cases z : j = i
      · subst z
        rw [List.getElem?_set_self hi] at e; cases e
        exact ⟨x0, e0, .inl rfl⟩
      · rw [List.getElem?_set_ne (Ne.symm z)] at e
        exact ⟨y, e, .inr ⟨z, rfl⟩⟩
    · by_cases z : j = i
      · subst z
        rw [e0] at e; cases e
        exact ⟨_, by rw [List.getElem?_set_self hi], .inr rfl⟩
      · exact ⟨x, by rw [List.getElem?_set_ne (Ne.symm z)]; exact e, .inl rfl⟩
  · rename_i h
    refine ⟨rfl, fun j y e => ⟨y, e, ?_⟩, fun j x e => ⟨x, e, .inl rfl⟩⟩
    by_cases z : j = i
    · subst z; exact (h _ e).elim
    · exact .inr ⟨z, rfl⟩
theorem dem_sub : ∀ (it : R) (σ2 : Sl), (dem it σ2).length = σ2.length ∧ (∀ (j : Nat) (y : Vx), (dem it σ2)[j]? = some (some y) → ∃ x, σ2[j]? = some (some x) ∧ (y = x ∨ y = lendX x)) ∧ ∀ (j : Nat) (x : Vx), σ2[j]? = some (some x) → ∃ y, (dem it σ2)[j]? = some (some y) ∧ (y = x ∨ y = lendX x) := by
  intro it
  induction it with
  | itv i => exact fun σ2 => ⟨(dem_itv i σ2).1, fun j y e => let ⟨x, e', h⟩ := (dem_itv i σ2).2.1 j y e; ⟨x, e', h.elim .inr fun z => .inl z.2⟩, (dem_itv i σ2).2.2⟩
  | enu a ih => exact ih
  | zip a b iha ihb =>
    intro σ2
    obtain ⟨a1, a2, a3⟩ := iha σ2
    obtain ⟨b1, b2, b3⟩ := ihb (dem a σ2)
    refine ⟨b1.trans a1, fun j y e => ?_, fun j x e => ?_⟩
    · obtain ⟨x1, e1, h1⟩ := b2 j y e
      obtain ⟨x0, e0, h0⟩ := a2 j x1 e1
      refine ⟨x0, e0, ?_⟩
      rcases h1 with rfl | rfl
      · exact h0
      · rcases h0 with rfl | rfl
        · exact .inr rfl
        · exact .inr (lend_idem _)
    · obtain ⟨x1, e1, h1⟩ := a3 j x e
      obtain ⟨x2, e2, h2⟩ := b3 j x1 e1
      refine ⟨x2, e2, ?_⟩
      rcases h2 with rfl | rfl
      · exact h1
      · rcases h1 with rfl | rfl
        · exact .inr rfl
        · exact .inr (lend_idem _)
  | _ => exact fun σ2 => ⟨rfl, fun j y e => ⟨y, e, .inl rfl⟩, fun j x e => ⟨x, e, .inl rfl⟩⟩
theorem dem_own {it : R} {σ2 : Sl} {j : Nat} {y : Vx} (e : (dem it σ2)[j]? = some (some y)) (o : own y = true) : σ2[j]? = some (some y) := by
  obtain ⟨x, e', h⟩ := (dem_sub it σ2).2.1 j y e
  rcases h with rfl | rfl
  · exact e'
  · rw [lend_own o]; exact e'
noncomputable def Dist (σ2 : Sl) (σ : L2.St) : Prop := ∀ (i j : Nat) (x y : Vx) (b : Addr), σ2[j]? = some (some y) → own y = true → σ[j]? = some (some (.ref b)) → σ2[i]? = some (some x) → lentB x = true → σ[i]? = some (some (.ref b)) → i = j
theorem srcA_dem (a : R) {σ2 : Sl} {σ : L2.St} {b : Addr} : ∀ (it : R), srcA it σ2 σ b → srcA it (dem a σ2) σ b := by
  intro it
  induction it with
  | itv i =>
    rintro ⟨x, e, l, e'⟩
    obtain ⟨y, e2, h⟩ := (dem_sub a σ2).2.2 i x e
    refine ⟨y, e2, ?_, e'⟩
    rcases h with rfl | rfl
    · exact l
    · rw [lend_lb]; exact l
  | enu a ih => exact ih
  | zip a b iha ihb => exact fun h => h.elim (fun z => .inl (iha z)) fun z => .inr (ihb z)
  | _ => exact fun h => h.elim
theorem Dist.dem (a : R) {σ2 : Sl} {σ : L2.St} (h : Dist σ2 σ) : Dist (dem a σ2) σ := fun i j x y b ej oj ej' ei li ei' => by
  obtain ⟨x0, e0, h0⟩ := (dem_sub a σ2).2.1 i x ei
  refine h i j x0 y b (dem_own ej oj) oj ej' e0 ?_ ei'
  rcases h0 with rfl | rfl
  · exact li
  · rwa [lend_lb] at li
theorem dem_src {σ : L2.St} {b : Addr} : ∀ (it : R) (σ2 : Sl), Dist σ2 σ → srcA it σ2 σ b → ¬ OwnA (dem it σ2) σ b := by
  intro it
  induction it with
  | itv i =>
    rintro σ2 d ⟨x, e, l, e'⟩ ⟨j, y, ej, oj, ej'⟩
    have ij := d i j x y b (dem_own ej oj) oj ej' e l e'
    subst ij
    obtain ⟨x0, e0, h0⟩ := (dem_itv i σ2).2.1 i y ej
    rcases h0 with rfl | ⟨z, _⟩
    · rw [e] at e0; cases e0
      cases x <;> first | cases l; done | cases oj
    · exact z rfl
  | enu a ih => exact ih
  | zip a a' iha ihb =>
    rintro σ2 d (h | h) ⟨j, y, ej, oj, ej'⟩
    · exact iha σ2 d h ⟨j, y, dem_own ej oj, oj, ej'⟩
    · exact ihb (DL.dem a σ2) (d.dem a) (srcA_dem a a' h) ⟨j, y, ej, oj, ej'⟩
  | _ => exact fun σ2 d h => h.elim
theorem RelS.dist {B : Bs} {K : Frag} {S : Hs} {H : Hp} {σ2 : Sl} {σ : L2.St} (r : RelS B K S H σ2 σ) : Dist σ2 σ := fun i j x y b ej oj ej' ei li ei' => by
  obtain ⟨h1, h2, h3⟩ := r.ow j y b ej oj ej'
  cases x with
  | vl ds => exact h3 i _ ei rfl ei'
  | bw ds => exact (h1 (r.lt i _ b ei rfl ei')).elim
  | _ => cases li
noncomputable def loopB (B : Bs) (S1 : Hs) (H1 : Hp) (σ2 : Sl) (σ : L2.St) : Bs := ⟨fun b => S1 b = none ∧ H1 b ≠ none ∧ ¬ OwnA σ2 σ b, H1, B.h0⟩
section
variable {K : Frag} {cx : Cls2} {S1 : Hs} {H1 : Hp} {σ2 : Sl} {σ : L2.St} {B : Bs}
theorem loop_le (it : R) (kb : KeepB B S1 H1) (rs : RelS B K S1 H1 σ2 σ) : B.Le (loopB B S1 H1 (dem it σ2) σ) := ⟨fun b z => by
  obtain ⟨h1, h2, h3⟩ := kb.st b z
  exact ⟨⟨h1, h3, fun ⟨i, x, e, o, e'⟩ => (rs.ow i x b (dem_own e o) o e').1 z⟩, h2⟩, rfl⟩
theorem loop_kb (it : R) (kb : KeepB B S1 H1) : KeepB (loopB B S1 H1 (dem it σ2) σ) S1 H1 := ⟨fun b z => ⟨z.1, rfl, z.2.1⟩, kb.hn⟩
theorem loop_rs (it : R) (rs : RelS B K S1 H1 σ2 σ) : RelS (loopB B S1 H1 (dem it σ2) σ) K S1 H1 (dem it σ2) σ := by
  refine ⟨⟨(dem_sub it σ2).1.trans rs.rx.1, fun i y e => ?_⟩, fun i y a e o e' => ⟨fun z => z.2.2 ⟨i, y, e, o, e'⟩, (rs.ow i y a (dem_own e o) o e').2.1, fun j w ej oj ej' => (rs.ow i y a (dem_own e o) o e').2.2 j w (dem_own ej oj) oj ej'⟩, fun i y a e l e' => ?_⟩
  · obtain ⟨x, e0, h⟩ := (dem_sub it σ2).2.1 i y e
    obtain ⟨v, h1, h2⟩ := rs.rx.2 i x e0
    refine ⟨v, h1, ?_⟩
    rcases h with rfl | rfl
    · exact h2
    · exact h2.lend
  · obtain ⟨x, e0, h⟩ := (dem_sub it σ2).2.1 i y e
    obtain ⟨v, h1, h2⟩ := rs.rx.2 i x e0
    rw [e'] at h1; cases h1
    have hx : lent x = true ∨ own x = true := by
      rcases h with rfl | rfl
      · exact .inl l
      · cases x <;> first | exact .inl rfl | exact .inr rfl | cases l
    have hz : S1 a = none ∧ H1 a ≠ none := by
      rcases h with rfl | rfl
      · cases y with
        | bw ds => obtain ⟨p, us, ep, hp, np, _⟩ := h2; cases ep; exact ⟨np, by rw [hp]; simp⟩
        | bd ds => obtain ⟨p, us, ep, hp, np, _⟩ := h2; cases ep; exact ⟨np, by rw [hp]; simp⟩
        | _ => cases l
      · cases x with
        | vl ds => obtain ⟨p, us, ep, hp, np, _⟩ := h2; cases ep; exact ⟨np, by rw [hp]; simp⟩
        | bw ds => obtain ⟨p, us, ep, hp, np, _⟩ := h2; cases ep; exact ⟨np, by rw [hp]; simp⟩
        | bd ds => obtain ⟨p, us, ep, hp, np, _⟩ := h2; cases ep; exact ⟨np, by rw [hp]; simp⟩
        | _ => cases l
    refine ⟨hz.1, hz.2, fun ⟨j, w, ej, oj, ej'⟩ => ?_⟩
    obtain ⟨g1, g2, g3⟩ := rs.ow j w a (dem_own ej oj) oj ej'
    rcases hx with hx | hx
    · exact g1 (rs.lt i x a e0 hx e')
    · have ij := g3 i x e0 hx e'
      subst ij
      rw [ej] at e; cases e
      cases y <;> first | cases l; done | cases oj
end
section
variable {X : Cx} {T : Tbl} {c : Nat → List Vx → Hs → VK2 → Prop} {cx : Cls2} (hc : CalMono c)
include hc
theorem st_iff {k a r : R} {ek : Expr} {ea er : List Stmt} {pos : Pos} (hk : PT X ek (liftT X.K cx (wpE T c k))) (ha : PSs X ea (liftS X.K cx (wpS T c a))) (hr : PSs X er (liftS X.K cx (wpS T c r))) : PS X (.If ek ea er pos) (liftS X.K cx (wpS T c (.iff k a r))) :=
  psImp (ps_if hk ha hr) fun D σ H ⟨B, S, σ2, hr, rs, kb, w⟩ => stepT hc hr rs.rx w fun b S1 H1 hr1 k1 rs1 w => by
    cases b with
    | true => rw [if_pos rfl]; exact ⟨B, S1, σ2, hr1, rs.keep k1 hr, kb.keep k1, w.t rfl⟩
    | false => rw [if_neg (by decide)]; exact ⟨B, S1, σ2, hr1, rs.keep k1 hr, kb.keep k1, w.f rfl⟩
theorem st_whl {k a : R} {ek : Expr} {ea : List Stmt} {pos : Pos} (hp : PassesOwn (model X.prog X.w) X.A X.env X.xe) (hk : PT X ek (liftT X.K cx (wpE T c k))) (ha : PSs X ea (liftS X.K cx (wpS T c a))) : PS X (.While ek ea [] pos) (liftS X.K cx (wpS T c (.whl k a))) :=
  psImp (ps_while hp hk ha) fun D σ H ⟨B, S, σ2, hr, rs, kb, n, w⟩ => by
    refine ⟨fun m σ' H' => ∃ B2 S' σ2', B.Le B2 ∧ Rel X.K cx S' H' ∧ RelS B2 X.K S' H' σ2' σ' ∧ KeepB B2 S' H' ∧ whlN (fun σ' S' K => wpE T c k σ' S' (one1 (tstK K))) (fun k σ' S' => wpS T c a σ' S' k (rtS X.K cx B D.rt) (nxS X.K cx B D.nx) k) (nxS X.K cx B D.nx) m σ2' S',
      ⟨n, B, S, σ2, .refl, hr, rs, kb, w⟩, ?_⟩
    rintro m σ' H' ⟨B2, S', σ2', l, hr, rs, kb, w⟩
    cases m with
    | zero => exact w.elim
    | succ m =>
      refine stepT hc hr rs.rx w fun b S1 H1 hr1 k1 rs1 w => ?_
      cases b with
      | true =>
        rw [if_pos rfl]
        refine ⟨fun σ' H' => ∃ B2 S' σ2', B.Le B2 ∧ Rel X.K cx S' H' ∧ RelS B2 X.K S' H' σ2' σ' ∧ KeepB B2 S' H' ∧ whlN (fun σ' S' K => wpE T c k σ' S' (one1 (tstK K))) (fun k σ' S' => wpS T c a σ' S' k (rtS X.K cx B D.rt) (nxS X.K cx B D.nx) k) (nxS X.K cx B D.nx) m σ2' S', fun σ' H' z => ⟨m, Nat.lt_succ_self m, z⟩, B2, S1, σ2', hr1, rs.keep k1 hr, kb.keep k1, ?_⟩
        exact wpS_mono hc (fun σ3 S3 z B3 σ4 H4 l3 hr3 rs3 kb3 => ⟨B3, S3, σ3, l.trans l3, hr3, rs3, kb3, z⟩) (fun _ _ => rtS.le l) (fun _ _ => nxS.le l) (fun σ3 S3 z B3 σ4 H4 l3 hr3 rs3 kb3 => ⟨B3, S3, σ3, l.trans l3, hr3, rs3, kb3, z⟩) (w.t rfl)
      | false =>
        rw [if_neg (by decide)]
        exact w.f rfl B2 σ' H1 l hr1 (rs.keep k1 hr) (kb.keep k1)
theorem st_for {tg : Tg} {it a : R} {etg eit : Expr} {ea : List Stmt} {pos : Pos} (hp : PassesOwn (model X.prog X.w) X.A X.env X.xe) (hcalm : X.calm = true) (hi : PI X etg eit (liftI X.K cx it (wpI T c it))) (hg : PG X etg (tgG X.K tg)) (ha : PSs X ea (liftS X.K cx (wpS T c a)))
    (hs : ∀ x, foldedSetIterable eit X.env x = pure x) : PS X (.For etg eit ea [] pos) (liftS X.K cx (wpS T c (.for tg it a))) :=
  psImp (ps_for hp hcalm hi hg ha hs) fun D σ H ⟨B, S, σ2, hr, rs, kb, w⟩ => ⟨S, σ2, hr, rs.rx, wpI_mono hc w fun J S1 w JJ H1 hr1 k1 lt => by
    have rs1 := rs.keep k1 hr
    have kb1 := kb.keep k1
    have l1 := loop_le it kb1 rs1
    have lt : ∀ S' H' σ', Rel X.K cx S' H' → KeepB (loopB B S1 H1 (dem it σ2) σ) S' H' → J.ok σ' S' → ItG X.K cx JJ J.items S' H' := fun S' H' σ' hr' k' o =>
      lt (loopB B S1 H1 (dem it σ2) σ).pd (fun b z1 z2 p => ⟨z1, z2, fun ⟨i, x, e, ow, e'⟩ => dem_src it σ2 rs1.dist (p ⟨i, x, dem_own e ow, ow, e'⟩) ⟨i, x, e, ow, e'⟩⟩) S' H' σ' hr' (fun b z => ⟨(k'.st b z).1, (k'.st b z).2.1⟩) o
    refine ⟨fun i m σ' H' => ∃ B2 S' σ2', (loopB B S1 H1 (dem it σ2) σ).Le B2 ∧ Rel X.K cx S' H' ∧ RelS B2 X.K S' H' σ2' σ' ∧ KeepB B2 S' H' ∧ m = J.items.length - i ∧ i ≤ J.items.length ∧
      forL tg J.ok (fun k σ' S' => wpS T c a σ' S' k (rtS X.K cx B D.rt) (nxS X.K cx B D.nx) k) (nxS X.K cx B D.nx) (J.items.drop i) σ2' S',
      ⟨J.items.length, _, S1, dem it σ2, .refl, hr1, loop_rs it rs1, loop_kb it kb1, rfl, Nat.zero_le _, w⟩, ?_⟩
    rintro i m σ' H' ⟨B2, S', σ2', l2, hr', rs', kb', rfl, hle, w⟩
    have l := l1.trans l2
    by_cases hlt : i < J.items.length
    · right
      rw [List.drop_eq_getElem_cons hlt] at w
      obtain ⟨ok, w⟩ := w
      obtain ⟨hgo, hy⟩ := (lt S' H' σ2' hr' (kb'.le l2) ok i).1 _ (List.getElem?_eq_getElem hlt)
      refine ⟨hgo, fun σ' H' => ∃ B2 S' σ2', (loopB B S1 H1 (dem it σ2) σ).Le B2 ∧ Rel X.K cx S' H' ∧ RelS B2 X.K S' H' σ2' σ' ∧ KeepB B2 S' H' ∧
        forL tg J.ok (fun k σ' S' => wpS T c a σ' S' k (rtS X.K cx B D.rt) (nxS X.K cx B D.nx) k) (nxS X.K cx B D.nx) (J.items.drop (i + 1)) σ2' S', fun σ' H' ⟨B2, S', σ2', h1, h2, h3, h4, h5⟩ => ⟨J.items.length - (i + 1), by omega, B2, S', σ2', h1, h2, h3, h4, rfl, hlt, h5⟩, fun x H5 y => ?_⟩
      obtain ⟨hr5, k5, rx⟩ := hy x H5 y
      refine bindT_ok (fun _ σa σb => RelS B2 X.K S' H5 σa σb) (fun i is x v σa σb rv p => p.setD rv) rx (rs'.keep k5 hr') w fun σa σb rsa w => ?_
      exact ⟨B2, S', σa, hr5, rsa, kb'.keep k5, wpS_mono hc (fun σ3 S3 z B3 σ4 H4 l3 hr3 rs3 kb3 => ⟨B3, S3, σ3, l2.trans l3, hr3, rs3, kb3, z⟩) (fun _ _ => rtS.le l) (fun _ _ => nxS.le l) (fun σ3 S3 z B3 σ4 H4 l3 hr3 rs3 kb3 => ⟨B3, S3, σ3, l2.trans l3, hr3, rs3, kb3, z⟩) w⟩
    · have e : i = J.items.length := by omega
      subst e
      rw [List.drop_length] at w
      exact .inl ⟨(lt S' H' σ2' hr' (kb'.le l2) w.1 _).2 rfl, w.2 B2 σ' H' l hr' rs' kb'⟩⟩
theorem st_ret {e : R} {ee : Expr} {pos : Pos} (he : PE X ee (liftE X.K cx (wpE T c e))) : PS X (.Return (some ee) pos) (liftS X.K cx (wpS T c (.ret e))) :=
  psImp (ps_ret he) fun D σ H ⟨B, S, σ2, hr, rs, kb, w⟩ => stepSE hc hr rs kb w fun x S1 v H1 hr1 k1 rs1 kb1 r1 w => by
    obtain ⟨hl, w⟩ := stor_of w
    exact w B v H1 .refl hr1 kb1 r1.1 fun o => let ⟨a, e, n⟩ := r1.2 o; ⟨a, e, kb.hn a n⟩
theorem st_retn {pos : Pos} : PS X (.Return none pos) (liftS X.K cx (wpS T c .retn)) := psImp ps_retN fun D σ H ⟨B, S, σ2, hr, rs, kb, w⟩ => w B _ H .refl hr kb rfl fun e => by cases e
theorem st_retv {i : Nat} {x : Str} {pos p : Pos} (hN : X.N[i]? = some x) (hv : Vis X.env.scope x) (h1 : (x == ("__debug__" : Str)) = false) (h2 : (x == ("__classdict__" : Str)) = false) : PS X (.Return (some (.Name x p)) pos) (liftS X.K cx (wpS T c (.retv i))) :=
  psImp (ps_ret (pe_var hN hv h1 h2)) fun D σ H ⟨B, S, σ2, hr, rs, kb, x, e, w⟩ => by
    obtain ⟨v, e', r⟩ := rs.rx.2 i x e
    obtain ⟨hl, w⟩ := stor_of w
    refine ⟨v, e', w B v H .refl hr kb r fun o => ?_⟩
    cases x with
    | vl ds => obtain ⟨a, us, rfl, _⟩ := r; exact ⟨a, rfl, (rs.ow i _ a e rfl e').2.1⟩
    | vd ds => obtain ⟨a, us, rfl, _⟩ := r; exact ⟨a, rfl, (rs.ow i _ a e rfl e').2.1⟩
    | _ => cases o
end
section
variable {K : Frag} {cx : Cls2} {S : Hs} {H : Hp}
theorem lock_on {a : Addr} {kvs : List (D × D)} (hr : Rel K cx S H) (e : S a = some (.dic kvs)) : ∃ ks, H a = some (.dK ks) ∧ ∀ od, Rel K cx (su S a (.fdc kvs (.frz od (.dK ks)))) (upd H a (.frz od (.dK ks))) ∧ Keep S (su S a (.fdc kvs (.frz od (.dK ks)))) H (upd H a (.frz od (.dK ks))) := by
  obtain ⟨ks, h, r⟩ := hr a _ e
  refine ⟨ks, h, fun od => ?_⟩
  have t : TupS K H (upd H a (.frz od (.dK ks))) := tupS_upd fun o z => by rw [h] at z; cases z; rfl
  refine ⟨hr.upd1 t ⟨upd_same, od, ks, rfl, r.keep t⟩, fun b o z n => ?_, fun b z => ?_⟩
  · have ne : b ≠ a := fun q => by subst q; rw [e] at n; cases n
    rw [upd_ne ne, su_ne ne]
    exact ⟨z, n⟩
  · by_cases q : b = a
    · subst q; rw [upd_same] at z; cases z
    · rwa [upd_ne q] at z
theorem lock_off {a : Addr} {kvs : List (D × D)} {od : Obj} {ks : List (Key × V)} (hr : Rel K cx S H) (e : S a = some (.fdc kvs (.frz od (.dK ks)))) : H a = some (.frz od (.dK ks)) ∧ Rel K cx (su S a (.dic kvs)) (upd H a (.dK ks)) ∧ Keep S (su S a (.dic kvs)) H (upd H a (.dK ks)) := by
  obtain ⟨h, o, ks', e', r⟩ := hr a _ e
  cases e'
  have t : TupS K H (upd H a (.dK ks)) := tupS_upd fun o z => by rw [h] at z; cases z; rfl
  refine ⟨h, hr.upd1 t ⟨ks, upd_same, r.keep t⟩, fun b o z n => ?_, fun b z => ?_⟩
  · have ne : b ≠ a := fun q => by subst q; rw [e] at n; cases n
    rw [upd_ne ne, su_ne ne]
    exact ⟨z, n⟩
  · by_cases q : b = a
    · subst q; rw [upd_same] at z; cases z
    · rwa [upd_ne q] at z
end
section
variable {X : Cx} {T : Tbl} {c : Nat → List Vx → Hs → VK2 → Prop} {cx : Cls2} (hc : CalMono c)
include hc
theorem snd_lockE {e : R} {ee : Expr} (he : PE X ee (liftE X.K cx (wpE T c e))) : PE X ee (liftE X.K cx (wpE T c (.lockE e))) :=
  peImp (pe_lock he) fun σ H Q ⟨S, σ2, hr, rs, a, kvs, ea, w⟩ => by
    obtain ⟨ks, h, lk⟩ := lock_on hr ea
    refine ⟨a, .dK ks, h, by simp [Mut], fun od => ?_⟩
    obtain ⟨hr0, k0⟩ := lk od
    refine ⟨_, σ2, hr0, rs.keep k0 hr, wpE_mono hc (w _) fun xs S' ⟨e1, x, ex, q⟩ => ⟨x, ex, fun v H' hr' k' r' => ?_⟩⟩
    obtain ⟨h1, hr1, k1⟩ := lock_off hr' e1
    exact ⟨h1, q v _ hr1 ((k0.trans k').trans k1) ⟨r'.1.keep k1 hr', fun o => let ⟨b, e2, n⟩ := r'.2 o; ⟨b, e2, k0.up b n⟩⟩⟩
theorem st_lock {st : R} {es : Stmt} (h : PS X es (liftS X.K cx (wpS T c st))) : PS X es (liftS X.K cx (wpS T c (.lock st))) :=
  psImp (ps_lock h) fun D σ H ⟨B, S, σ2, hr, rs, kb, a, kvs, ea, w⟩ => by
    obtain ⟨ks, h, lk⟩ := lock_on hr ea
    refine ⟨a, .dK ks, h, by simp [Mut], fun od => ?_⟩
    obtain ⟨hr0, k0⟩ := lk od
    refine ⟨B, _, σ2, hr0, rs.keep k0 hr, kb.keep k0, wpS_mono hc (fun σ' S' ⟨e1, q⟩ B' σ H' l hr' rs' kb' => ?_) (fun x S' ⟨e1, q⟩ B' v H' l hr' kb' r' o => ?_) (fun σ' S' ⟨e1, q⟩ B' σ H' l hr' rs' kb' => ?_) (fun σ' S' ⟨e1, q⟩ B' σ H' l hr' rs' kb' => ?_) (w _)⟩
    · obtain ⟨h1, hr1, k1⟩ := lock_off hr' e1
      exact ⟨h1, q B' σ _ l hr1 (rs'.keep k1 hr') (kb'.keep k1)⟩
    · obtain ⟨h1, hr1, k1⟩ := lock_off hr' e1
      exact ⟨h1, q B' v _ l hr1 (kb'.keep k1) (r'.keep k1 hr') o⟩
    · obtain ⟨h1, hr1, k1⟩ := lock_off hr' e1
      exact ⟨h1, q B' σ _ l hr1 (rs'.keep k1 hr') (kb'.keep k1)⟩
    · obtain ⟨h1, hr1, k1⟩ := lock_off hr' e1
      exact ⟨h1, q B' σ _ l hr1 (rs'.keep k1 hr') (kb'.keep k1)⟩
omit hc in
theorem dicR_get {K : Frag} {H : Hp} : ∀ {kvs : List (D × D)} {ks : List (Key × V)} {i : Nat} {p : D × D}, DicR K H kvs ks → kvs[i]? = some p → ∃ k v, ks[i]? = some (k, v) ∧ KeyR p.1 k ∧ RepV K H p.2 v
  | _, _, i, p, .nil, e => by simp at e
  | q :: kvs, (k, v) :: ks, 0, p, .cons h t, e => by simp at e; subst e; exact ⟨k, v, rfl, h.1, h.2⟩
  | q :: kvs, b :: ks, i + 1, p, .cons h t, e => by
    obtain ⟨k, v, h1, h2⟩ := dicR_get (i := i) t (by simpa using e)
    exact ⟨k, v, by simpa using h1, h2⟩
omit hc in
theorem keyR_rep {K : Frag} {H : Hp} {d : D} {k : Key} (h : KeyR d k) : RepV K H d (kV k) := by
  cases d <;> first | (cases h; rfl) | exact h.elim
theorem walk_itk {a : R} {ea tg : Expr} (ha : PE X ea (liftE X.K cx (wpE T c a))) : PI X tg ea (liftI X.K cx (.itk a) (wpI T c (.itk a))) :=
  piImp hc (pi_keys ha) fun σ H R ⟨S, σ2, hr, rs, w⟩ => stepE hc hr rs w fun x S1 v H1 hr1 k1 rs1 r1 ⟨b, kvs, z, ex, eb, w⟩ => by
    subst ex
    cases r1.1
    obtain ⟨h, o, ks, rfl, rd⟩ := hr1 b _ eb
    refine ⟨b, o, rfl, .inl ⟨ks, h, w _ H1 hr1 k1 fun Pz hz S' H' σ' hr' k' ok i => ?_⟩⟩
    obtain ⟨h', o', ks', e', rd'⟩ := hr' b _ ok
    cases e'
    have hl : kvs.length = ks.length := DicR.length rd'
    refine ⟨fun d e => ?_, fun e => ⟨h', by rw [← hl]; simpa using Nat.le_of_eq e⟩⟩
    rw [List.getElem?_map] at e
    obtain ⟨p, e1, rfl⟩ := Option.map_eq_some_iff.mp e
    obtain ⟨k, v, h1, h2, h3⟩ := dicR_get rd' e1
    refine ⟨⟨h', (List.getElem?_eq_some_iff.mp h1).1⟩, fun x H2 y => ?_⟩
    obtain ⟨rfl, k', v', h4, rfl⟩ := y
    rw [h1] at h4; cases h4
    exact ⟨hr', .refl, keyR_rep h2⟩
theorem walk_itms {a : R} {ea : Expr} {elts : List Expr} {kk : Nat} {tpos apos cpos : Pos} (ha : PE X ea (liftE X.K cx (wpE T c a))) (hb : attributeBase ea "items" X.env (eval ea X.env) = eval ea X.env) (hl : (apos.endLine == cpos.line) = true) :
    PI X (.Tuple elts kk tpos) (.Call (.Attribute ea "items" apos) [] [] cpos) (liftI X.K cx (.itms a) (wpI T c (.itms a))) :=
  piImp hc (pi_items ha hb hl) fun σ H R ⟨S, σ2, hr, rs, w⟩ => stepE hc hr rs w fun x S1 v H1 hr1 k1 rs1 r1 ⟨b, kvs, z, ex, eb, w⟩ => by
    subst ex
    cases r1.1
    obtain ⟨h, o, ks, rfl, rd⟩ := hr1 b _ eb
    refine ⟨b, o, ks, rfl, h, w _ H1 hr1 k1 fun Pz hz S' H' σ' hr' k' ok i => ?_⟩
    obtain ⟨h', o', ks', e', rd'⟩ := hr' b _ ok
    cases e'
    have hl : kvs.length = ks.length := DicR.length rd'
    refine ⟨fun d e => ?_, fun e => ⟨h', by rw [← hl]; simpa using Nat.le_of_eq e⟩⟩
    rw [List.getElem?_map] at e
    obtain ⟨p, e1, rfl⟩ := Option.map_eq_some_iff.mp e
    obtain ⟨k, v, h1, h2, h3⟩ := dicR_get rd' e1
    refine ⟨⟨h', (List.getElem?_eq_some_iff.mp h1).1⟩, fun x H2 y => ?_⟩
    obtain ⟨T', k', v', h4, rfl, n, rfl⟩ := y
    rw [h1] at h4; cases h4
    exact pair_new hr' n (keyR_rep h2) h3
end
section
variable {K : Frag} {cx : Cls2} {S : Hs} {H : Hp}
theorem lockN_on {a : Addr} {kvs : List (D × D)} (hr : Rel K cx S H) (e : S a = some (.dn kvs)) : ∃ u xs, H a = some u ∧ Mut (some u) ∧ ∀ od, Rel K cx (su S a (.fdn kvs (.frz od u) xs)) (upd H a (.frz od u)) ∧ Keep S (su S a (.fdn kvs (.frz od u) xs)) H (upd H a (.frz od u)) := by
  obtain ⟨xs, h, r⟩ := hr a _ e
  refine ⟨_, xs, h, True.intro, fun od => ?_⟩
  have t : TupS K H (upd H a (.frz od (dnO cx.w a xs))) := tupS_upd fun o z => by rw [h] at z; cases z; rfl
  refine ⟨hr.upd1 t ⟨upd_same, od, rfl, r.keep t⟩, fun b o z n => ?_, fun b z => ?_⟩
  · have ne : b ≠ a := fun q => by subst q; rw [e] at n; cases n
    rw [upd_ne ne, su_ne ne]
    exact ⟨z, n⟩
  · by_cases q : b = a
    · subst q; rw [upd_same] at z; cases z
    · rwa [upd_ne q] at z
theorem lockN_off {a : Addr} {kvs : List (D × D)} {od : Obj} {u : HO} {xs : List NE} (hr : Rel K cx S H) (e : S a = some (.fdn kvs (.frz od u) xs)) : H a = some (.frz od u) ∧ Rel K cx (su S a (.dn kvs)) (upd H a u) ∧ Keep S (su S a (.dn kvs)) H (upd H a u) := by
  obtain ⟨h, o, e', r⟩ := hr a _ e
  cases e'
  have t : TupS K H (upd H a (dnO cx.w a xs)) := tupS_upd fun o z => by rw [h] at z; cases z; rfl
  refine ⟨h, hr.upd1 t ⟨xs, upd_same, r.keep t⟩, fun b o z n => ?_, fun b z => ?_⟩
  · have ne : b ≠ a := fun q => by subst q; rw [e] at n; cases n
    rw [upd_ne ne, su_ne ne]
    exact ⟨z, n⟩
  · by_cases q : b = a
    · subst q; rw [upd_same] at z; cases z
    · rwa [upd_ne q] at z
theorem one_of {α : Type} {xs : List α} (h : xs.length = 1) : ∃ x, xs = [x] := List.length_eq_one_iff.mp h
theorem lend_on {a : Addr} {ds : List D} (hr : Rel K cx S H) (e : S a = some (.lst ds)) : ∃ vs, H a = some (.lst vs) ∧ RepL K H ds vs ∧ Rel K cx (mn a S) H := by
  obtain ⟨vs, h, r⟩ := hr a _ e
  refine ⟨vs, h, r, fun b o q => ?_⟩
  by_cases z : b = a
  · subst z; rw [mn_same] at q; cases q
  · rw [mn_ne z] at q; exact hr b o q
end
section
variable {X : Cx} {T : Tbl} {c : Nat → List Vx → Hs → VK2 → Prop} {cx : Cls2} (hc : CalMono c)
include hc
theorem snd_lockEN {e : R} {ee : Expr} (he : PE X ee (liftE X.K cx (wpE T c e))) : PE X ee (liftE X.K cx (wpE T c (.lockEN e))) :=
  peImp (pe_lock he) fun σ H Q ⟨S, σ2, hr, rs, a, kvs, ea, w⟩ => by
    obtain ⟨u, ns, h, mu, lk⟩ := lockN_on hr ea
    refine ⟨a, u, h, mu, fun od => ?_⟩
    obtain ⟨hr0, k0⟩ := lk od
    refine ⟨_, σ2, hr0, rs.keep k0 hr, wpE_mono hc (w _ ns) fun xs S' ⟨e1, x, ex, q⟩ => ⟨x, ex, fun v H' hr' k' r' => ?_⟩⟩
    obtain ⟨h1, hr1, k1⟩ := lockN_off hr' e1
    exact ⟨h1, q v _ hr1 ((k0.trans k').trans k1) ⟨r'.1.keep k1 hr', fun o => let ⟨b, e2, n⟩ := r'.2 o; ⟨b, e2, k0.up b n⟩⟩⟩
theorem snd_lend {i : Nat} {e : R} {ee : Expr} (he : PE X ee (liftE X.K cx (wpE T c e))) : PE X ee (liftE X.K cx (wpE T c (.lend i e))) :=
  peImp he fun σ H Q ⟨S, σ2, hr, rs, a, ds, ei, ea, w⟩ => by
    obtain ⟨vs, h, r, hr0⟩ := lend_on hr ea
    obtain ⟨v, hv, rv⟩ := rs.2 i _ ei
    cases rv
    refine ⟨mn a S, σ2.set i (some (.bw ds)), hr0, ⟨by rw [List.length_set]; exact rs.1, fun j x ej => ?_⟩, wpE_mono hc w fun xs S' ⟨hn, hn1, qq⟩ => (let ⟨x, ex⟩ := one_of hn1; ⟨x, ex, fun v H' hr' k' r' => ?_⟩)⟩
    · by_cases z : i = j
      · subst z
        have hi : i < σ2.length := (List.getElem?_eq_some_iff.mp ei).1
        rw [List.getElem?_set_self hi] at ej
        cases ej
        exact ⟨_, hv, a, vs, rfl, h, mn_same, r⟩
      · rw [List.getElem?_set_ne z] at ej
        obtain ⟨u, hu, ru⟩ := rs.2 j x ej
        refine ⟨u, hu, ?_⟩
        have mz : ∀ b, S b = none → mn a S b = none := fun b n => by
          by_cases z : b = a
          · subst z; exact mn_same
          · rw [mn_ne z]; exact n
        cases x with
        | d y => exact ru
        | vl es => obtain ⟨b, us, e, h1, n, q⟩ := ru; exact ⟨b, us, e, h1, mz b n, q⟩
        | bw es => obtain ⟨b, us, e, h1, n, q⟩ := ru; exact ⟨b, us, e, h1, mz b n, q⟩
        | vd es => obtain ⟨b, us, e, h1, n, q⟩ := ru; exact ⟨b, us, e, h1, mz b n, q⟩
        | bd es => obtain ⟨b, us, e, h1, n, q⟩ := ru; exact ⟨b, us, e, h1, mz b n, q⟩
        | fz es =>
          obtain ⟨b, us, e, h1, q⟩ := ru
          exact ⟨b, us, e, h1.imp (fun ⟨o, h2, n⟩ => ⟨o, h2, mz b n⟩) id, q⟩
        | st es => exact ru.elim
    · subst ex
      obtain ⟨h', n'⟩ := k'.kp a _ h mn_same
      have t := k'.tups hr0
      have hr1 : Rel X.K cx (su S' a (.lst ds)) H' := hr'.box ⟨vs, h', r.keep t⟩
      have k1 : Keep S (su S' a (.lst ds)) H H' := ⟨fun b o e n => by
        have ne : b ≠ a := fun z => by subst z; rw [ea] at n; cases n
        obtain ⟨h1, h2⟩ := k'.kp b o e (by rw [mn_ne ne]; exact n)
        exact ⟨h1, by rw [su_ne ne]; exact h2⟩, k'.up⟩
      have hx : noLoan x = true := by simpa using hn
      obtain ⟨x', ex', q⟩ := qq n'
      cases ex'
      refine q v H' hr1 k1 ⟨?_, r'.2⟩
      have nb : own x = true → ∀ b, v = .ref b → b ≠ a := fun o b eb z => by
        obtain ⟨b', e1, e2⟩ := r'.2 o
        subst z
        rw [eb] at e1; cases e1
        rw [h] at e2; cases e2
      cases x with
      | d y => exact r'.1
      | vl es => obtain ⟨b, us, e, h1, n, q⟩ := r'.1; exact ⟨b, us, e, h1, by rw [su_ne (nb rfl b e)]; exact n, q⟩
      | vd es => obtain ⟨b, us, e, h1, n, q⟩ := r'.1; exact ⟨b, us, e, h1, by rw [su_ne (nb rfl b e)]; exact n, q⟩
      | _ => cases hx
theorem snd_dctn (hw : cx.w = X.w) {pos : Pos} : PE X (.Dict [] [] pos) (liftE X.K cx (wpE T c .dctn)) :=
  peImp pe_dn fun σ H Q ⟨S, σ2, hr, rs, w⟩ => fun p n m => by
    obtain ⟨x, e, q⟩ := w p (hr.free n)
    cases e
    have t : TupS X.K H (upd H p (dnO X.w p [])) := tupS_new n
    refine q _ _ (hr.upd1 t ⟨[], by rw [hw]; exact upd_same, .nil, List.nodup_nil, Nat.zero_le _, m⟩) ⟨fun b o e z => ⟨by rw [upd_ne (ne_of_none e n)]; exact e, ?_⟩, (Keep.new (S := S) n).up⟩ ⟨rfl, fun e => by cases e⟩
    rw [su_ne (ne_of_none e n)]; exact z
omit hc in
theorem pe_dn1 {ek ev : Expr} {tk tv : TE} {pos : Pos} (hu : X.A.units + 60 < cLine) (hk : PE X ek tk) (hv : PE X ev tv) : PE X (.Dict [some ek] [ev] pos) (fun σ H Q => ∀ p, H p = none → (p == sysModules) = false → tk σ (upd H p (dnO X.w p [])) fun x H1 => tv σ H1 fun y H2 =>
    H2 p = some (dnO X.w p []) ∧ ∃ kd dd, keyN kd = true ∧ RepV X.K H2 kd x ∧ RepV X.K H2 dd y ∧ ∀ xs, DnOk X.K (upd H2 p (dnO X.w p xs)) p [(kd, dd)] xs → Q (.ref p) (upd H2 p (dnO X.w p xs))) := ⟨fun pins s σ H Q I h => by
  have hb : sysModules < s.heap.objs.size := Inv.big I
  have hm : (s.heap.objs.size == sysModules) = false := beq_eq_false_iff_ne.mpr (Nat.ne_of_gt hb)
  have I1 := I.laid (a := s.heap.objs.size) (o := dnO X.w s.heap.objs.size []) (h' := s.heap.push { cls := .type "dict", data := .dict #[] }) (t' := s.toks) (fun _ _ q => Heap.get?_push_of_some _ q) (Nat.le_refl _) (dn_okO ⟨_, #[], 0, Heap.get?_push_size _ rfl, ⟨rfl, rfl, rfl⟩, rfl, rfl⟩)
  have hn := pairTrees_length [some ek] [ev] X.env pos rfl rfl
  rw [arm_eval_Dict, zip_pairTrees [some ek] [ev] X.env pos rfl rfl, dictDisplay_pairs _ (fun z => by rw [z] at hn; cases hn) (by rw [hn]; exact Nat.le_of_ble_eq_true rfl)]
  refine wpAny_bind (wpAny_standAt (wpAny_bind (wpAny_subDictH (knd := nestedKind X.prog X.w) (show X.A.units + 8 < cLine by omega) (by rw [hn]; exact Nat.le_of_ble_eq_true rfl) ?_)))
  refine pairTrees_cons_walk (thn (hk.run pins _ σ _ _ I1 (h _ (I.hok.fresh (Nat.le_refl _)) hm)) fun u s1 ⟨x, H1, I2, rx, q1⟩ => thn (hv.run pins s1 σ H1 _ I2 q1) fun u2 s2 ⟨y, H2, I3, ry, hp, kd, dd, hkd, rk, rd, q2⟩ => pairTrees_nil_walk ?_)
  obtain ⟨b, rfl, rfl, hki⟩ := key_is I3 hkd rk rx
  have ok0 : DnOk X.K H2 s.heap.objs.size [] [] := ⟨.nil, List.nodup_nil, Nat.zero_le _, hm⟩
  refine ⟨[(nkD kd, b, u2)], ⟨rfl, rfl, hki, trivial⟩, dn_of I3 (.inl hp) ok0, fun h' tk' dd' hs => wpAny_pure ?_⟩
  obtain ⟨o, es, ep, h1, h2, h3, h4, _, h5⟩ := dd'
  have p : dnP X.w s.heap.objs.size (storedH [] (nkD kd) b u2) h' := ⟨o, es, ep, h1, h2, h3, h4⟩
  refine ⟨.ref s.heap.objs.size, _, d_write (t' := tk') I3 (by rw [hp]; exact True.intro) hs ⟨o, h1⟩ (dn_okO p), rfl, q2 _ ?_⟩
  exact DnOk.keep (dn_tups hp) ⟨.cons ⟨hkd, rfl, rk, y, ry, rd⟩ .nil, h5, by rw [sizeLine_eq]; exact Nat.le_of_ble_eq_true rfl, hm⟩⟩
theorem snd_dctn1 (hw : cx.w = X.w) (hu : X.A.units + 60 < cLine) {k v : R} {ek ev : Expr} {pos : Pos} (hk : PE X ek (liftE X.K cx (wpE T c k))) (hv : PE X ev (liftE X.K cx (wpE T c v))) : PE X (.Dict [some ek] [ev] pos) (liftE X.K cx (wpE T c (.dctn1 k v))) :=
  peImp (pe_dn1 hu hk hv) fun σ H Q ⟨S, σ2, hr, rs, w⟩ => fun p n m => by
    have k0 : Keep S S H (upd H p (dnO X.w p [])) := Keep.new n
    have hr0 : Rel X.K cx S (upd H p (dnO X.w p [])) := hr.upd0 (hr.free n) (tupS_new n)
    refine stepE hc hr0 (rs.keep k0 hr) w fun x S1 xv H1 hr1 k1 rs1 r1 w => stepE hc hr1 rs1 w fun y S2 yv H2 hr2 k2 rs2 r2 w => ?_
    obtain ⟨d, S3, ⟨kd, ex, hkd, w'⟩, hr3, k3, rd, _⟩ := rel_box hc hr2 k2 r2 w
    subst ex
    obtain ⟨hp1, sp1⟩ := (k1.trans k3).kp p _ upd_same (hr.free n)
    refine ⟨hp1, kd, d, hkd, RepV.keep (k3.tups hr1) _ _ r1.1, rd, fun xs ok => ?_⟩
    obtain ⟨x', ex', q⟩ := w' p sp1
    cases ex'
    refine q _ _ (hr3.upd1 (dn_tups hp1) ⟨xs, by rw [hw]; exact upd_same, ok⟩) ⟨fun b o e' nb => ?_, fun b e' => ?_⟩ ⟨rfl, fun e => by cases e⟩
    · have ne : b ≠ p := fun z => by subst z; rw [n] at e'; cases e'
      obtain ⟨g1, g2⟩ := (k0.trans (k1.trans k3)).kp b o e' nb
      exact ⟨by rw [upd_ne ne]; exact g1, by rw [su_ne ne]; exact g2⟩
    · by_cases ne : b = p
      · subst ne; exact n
      · rw [upd_ne ne] at e'
        exact (k0.trans (k1.trans k3)).up b e'
omit hc in
theorem pe_lockV {e : Expr} {t : TE} (h : PE X e t) : PE X e (fun σ H Q => t σ H fun x H1 => ∃ d u, x = .ref d ∧ H1 d = some u ∧ Mut (some u) ∧ ∀ od, Q (.ref d) (upd H1 d (.frz od u))) := ⟨fun pins s σ H Q I hw => by
  refine thn (h.run pins s σ _ _ I hw) fun v s1 ⟨x, H1, I2, r, d, u, ex, hd, mu, q⟩ => ?_
  subst ex
  obtain ⟨od, I3⟩ := I2.lock hd mu
  exact ⟨.ref d, _, I3, r, q od⟩⟩
theorem snd_lockV {e : R} {ee : Expr} (he : PE X ee (liftE X.K cx (wpE T c e))) : PE X ee (liftE X.K cx (wpE T c (.lockV e))) :=
  peImp (pe_lockV he) fun σ H Q ⟨S, σ2, hr, rs, w⟩ => stepE hc hr rs w fun x S1 v H1 hr1 k1 rs1 r1 ⟨a, kvs, ex, ea, w⟩ => by
    subst ex
    cases r1.1
    obtain ⟨u, ns, h, mu, lk⟩ := lockN_on hr1 ea
    refine ⟨a, u, rfl, h, mu, fun od => ?_⟩
    obtain ⟨hr2, k2⟩ := lk od
    obtain ⟨x', ex', q⟩ := w _ ns
    cases ex'
    exact q _ _ hr2 (k1.trans k2) ⟨rfl, fun e => by cases e⟩
theorem st_lockN {st : R} {es : Stmt} (h : PS X es (liftS X.K cx (wpS T c st))) : PS X es (liftS X.K cx (wpS T c (.lockN st))) :=
  psImp (ps_lock h) fun D σ H ⟨B, S, σ2, hr, rs, kb, a, kvs, ea, w⟩ => by
    obtain ⟨u, ns, h, mu, lk⟩ := lockN_on hr ea
    refine ⟨a, u, h, mu, fun od => ?_⟩
    obtain ⟨hr0, k0⟩ := lk od
    refine ⟨B, _, σ2, hr0, rs.keep k0 hr, kb.keep k0, wpS_mono hc (fun σ' S' ⟨e1, q⟩ B' σ H' l hr' rs' kb' => ?_) (fun x S' ⟨e1, q⟩ B' v H' l hr' kb' r' o => ?_) (fun σ' S' ⟨e1, q⟩ B' σ H' l hr' rs' kb' => ?_) (fun σ' S' ⟨e1, q⟩ B' σ H' l hr' rs' kb' => ?_) (w _ ns)⟩
    · obtain ⟨h1, hr1, k1⟩ := lockN_off hr' e1
      exact ⟨h1, q B' σ _ l hr1 (rs'.keep k1 hr') (kb'.keep k1)⟩
    · obtain ⟨h1, hr1, k1⟩ := lockN_off hr' e1
      exact ⟨h1, q B' v _ l hr1 (kb'.keep k1) (r'.keep k1 hr') o⟩
    · obtain ⟨h1, hr1, k1⟩ := lockN_off hr' e1
      exact ⟨h1, q B' σ _ l hr1 (rs'.keep k1 hr') (kb'.keep k1)⟩
    · obtain ⟨h1, hr1, k1⟩ := lockN_off hr' e1
      exact ⟨h1, q B' σ _ l hr1 (rs'.keep k1 hr') (kb'.keep k1)⟩
omit hc in
theorem Inv.frzN {pins : List (Addr × Obj)} {σ : L2.St} {H : Hp} {s : Shared} {d : Addr} {o : Obj} {w : World} {xs : List NE} (I : Inv X pins σ H s) (h : H d = some (.frz o (dnO w d xs))) :
    s.heap.get? d = some o ∧ o.ExactDict ∧ ∃ (es : Array DictEntry) (ep : Nat), o.data = .dict es ep ∧ es.size = xs.length ∧ ∀ (i : Nat) (y : NE), xs[i]? = some y → ∃ en : DictEntry, es[i]? = some en ∧ en.key = .ref y.2.1 := by
  obtain ⟨hd, ⟨o', es, ep, h1, h2, h3, h4⟩, _⟩ := I.hok d _ h
  rw [hd] at h1
  cases h1
  refine ⟨hd, h2, es, ep, h3, by rw [← Array.length_toList, h4, List.length_map], fun i y e => ⟨entN w y, ?_, rfl⟩⟩
  rw [← Array.getElem?_toList, h4, List.getElem?_map, e]; rfl
noncomputable def Itkn (w : World) (d : Addr) (o : Obj) (xs : List NE) : It :=
  ⟨fun i H => H d = some (.frz o (dnO w d xs)) ∧ i < xs.length, fun i H x H' => H' = H ∧ ∃ y : NE, xs[i]? = some y ∧ x = .ref y.2.1, fun i H => H d = some (.frz o (dnO w d xs)) ∧ xs.length ≤ i⟩
omit hc in
theorem turn_keysN {P : Program} {w : World} {K : PySem.W.Frag} {tg : Expr} {w' : World} {d : Addr} {o : Obj} {es : Array DictEntry} {ep : Nat} {xs : List NE} (it : Addr) (hod : o.data = .dict es ep) : Turn P w K tg (Itkn w' d o xs) [it] it (fun i h => h.IsKeyIter it d i xs.length ep) where
  mem := by simp
  obj := fun i h st b hb => by
    have e : b = it := by simpa using hb
    subst e
    obtain ⟨oi, e, c, dd⟩ := st
    exact ⟨oi, e, fun v z => by rw [dd] at z; cases z⟩
  keep := fun i h h' st k => st.at fun oi e => k it (by simp) oi e
  item := by
    intro X hP hw hK hc i pins s σ H E I hf st hg
    subst hP hw hK
    obtain ⟨hd, hi⟩ := hg
    obtain ⟨f0, f1, f2, f3, f4, f5⟩ := hf it (by simp)
    obtain ⟨hgd, hx, es', ep', hdt, hsz, ent⟩ := Inv.frzN I hd
    obtain ⟨rfl, rfl⟩ := dict_ep hod hdt
    obtain ⟨y, hy⟩ : ∃ y, xs[i]? = some y := ⟨xs[i], List.getElem?_eq_getElem hi⟩
    obtain ⟨en, hen, hkey⟩ := ent i y hy
    refine next_key_item st hgd hdt hsz hen fun h' st' sb => ?_
    have I1 : Inv X pins σ H { s with heap := h' } := I.turned (t' := s.toks) (fun b ob hb e => (sb.2 b hb).trans e) f0 f1 f3 f4 f5
    obtain ⟨oi, e, c, dd⟩ := id st'
    exact ⟨en.key, rfl, go_of (s := { s with heap := h' }) e c dd (by decide) ⟨.ref y.2.1, H, I1, hkey, ⟨rfl, y, hy, rfl⟩, st', fun b hb => (hf b hb).1⟩⟩
  done := by
    intro X hP hw hK hc i pins s σ H E I hf st hg
    subst hP hw hK
    obtain ⟨hd, hi⟩ := hg
    obtain ⟨f0, f1, f2, f3, f4, f5⟩ := hf it (by simp)
    obtain ⟨hgd, hx, es', ep', hdt, hsz, ent⟩ := Inv.frzN I hd
    obtain ⟨rfl, rfl⟩ := dict_ep hod hdt
    exact next_key_end (I.ok.hd hc) st hgd hdt hsz hi fun h' eb => ⟨rfl, I.turned (t' := s.toks) (fun b ob hb e => eb b ob hb e) f0 f1 f3 f4 f5⟩
  self := fun A i s Q E st h => by
    refine wpAny_pyIter_slot st.typeIs PySem.F.slot_dict_keyiterator_iter (wpAny_call_entry PySem.F.slot_dict_keyiterator_iter st.typeIs PySem.F.entry_dict_keyiterator_iter ?_ (PySem.F.args_dict_keyiterator_iter_1 _))
    show wpAny _ _ (ret (.ref it)) _ _ s
    exact wpAny_pure ⟨_, rfl, "dict_keyiterator", _, st.typeIs, PySem.F.slot_dict_keyiterator_next.lookup, h⟩
noncomputable def iKeysN (td : TE) : TI := fun σ H R => td σ H fun x H1 => ∃ d o w xs, x = .ref d ∧ (d == sysModules) = false ∧ H1 d = some (.frz o (dnO w d xs)) ∧ R (Itkn w d o xs) H1
omit hc in
theorem pi_keysN {tg e : Expr} {td : TE} (he : PE X e td) : PI X tg e (iKeysN td) := by
  refine ⟨fun pins s σ H R I h => ?_⟩
  refine thn (he.run pins s σ H _ I h) fun u s1 ⟨x, H1, I1, rx, d, o, w, xs, ex, hs, hd, q⟩ => ?_
  subst ex
  obtain rfl : u = Value.ref d := rx
  obtain ⟨hgd, hx, es, ep, hdt, hsz, ent⟩ := Inv.frzN I1 hd
  refine iter_keys hs hgd hx hdt (pi_one (tk := s1.toks) I1 _ (turn_keysN _ hdt) ⟨_, Heap.get?_push_size _ rfl, rfl, ?_⟩ q)
  rw [hsz] <;> rfl
omit hc in
theorem dnR_get {K : Frag} {H : Hp} : ∀ {kvs : List (D × D)} {xs : List NE} {i : Nat} {p : D × D}, DnR K H kvs xs → kvs[i]? = some p → ∃ y, xs[i]? = some y ∧ DnE K H p y
  | _, _, i, p, .nil, e => by simp at e
  | q :: kvs, y :: ys, 0, p, .cons h t, e => by simp at e; subst e; exact ⟨y, rfl, h⟩
  | q :: kvs, b :: ys, i + 1, p, .cons h t, e => by
    obtain ⟨y, h1, h2⟩ := dnR_get (i := i) t (by simpa using e)
    exact ⟨y, by simpa using h1, h2⟩
theorem walk_itkn {a : R} {ea tg : Expr} (ha : PE X ea (liftE X.K cx (wpE T c a))) : PI X tg ea (liftI X.K cx (.itkn a) (wpI T c (.itkn a))) :=
  piImp hc (pi_keysN ha) fun σ H R ⟨S, σ2, hr, rs, w⟩ => stepE hc hr rs w fun x S1 v H1 hr1 k1 rs1 r1 ⟨b, kvs, z, xs, ex, eb, w⟩ => by
    subst ex
    cases r1.1
    obtain ⟨h, o, rfl, rd⟩ := hr1 b _ eb
    refine ⟨b, o, cx.w, xs, rfl, rd.m, h, w _ H1 hr1 k1 fun Pz hz S' H' σ' hr' k' ok i => ?_⟩
    obtain ⟨h', o', _, rd'⟩ := hr' b _ ok
    have hl : kvs.length = xs.length := rd'.r.length
    refine ⟨fun d e => ?_, fun e => ⟨h', by rw [← hl]; simpa using Nat.le_of_eq e⟩⟩
    rw [List.getElem?_map] at e
    obtain ⟨p, e1, rfl⟩ := Option.map_eq_some_iff.mp e
    obtain ⟨y, h1, h2⟩ := dnR_get rd'.r e1
    refine ⟨⟨h', (List.getElem?_eq_some_iff.mp h1).1⟩, fun x H2 y' => ?_⟩
    obtain ⟨rfl, y2, h4, rfl⟩ := y'
    rw [h1] at h4; cases h4
    exact ⟨hr', .refl, h2.2.2.1⟩
omit hc in
theorem slice_one (items : Array Value) : slicePick items none none (some 1) = slicePick items none none none := rfl
noncomputable def tStpL (K : PySem.W.Frag) (te tk : TE) : TE := fun σ H Q => te σ H fun x H1 => tPart tk σ H1 fun o H2 => ∃ a xs z, x = .ref a ∧ SqL K H2 a xs ∧ o = some z ∧ (z = 1 ∨ z = -1) ∧ ∀ p, H2 p = none → Q (.ref p) (upd H2 p (.lst (if z = 1 then xs else xs.reverse)))
omit hc in
theorem pe_stpL {e ek : Expr} {te tk : TE} {p3 pos : Pos} (he : PE X e te) (hk : PE X ek tk) : PE X (.Subscript e (.Slice none none (some ek) p3) pos) (tStpL X.K te tk) := by
  refine ⟨fun pins s σ H Q I h => ?_⟩
  refine Subscript_ (thn (he.run pins s σ H _ I h) fun v s1 ⟨x, H1, I1, r1, q1⟩ => ?_)
  refine wpAny_Slice (thn (po_none.run pins s1 σ H1 (fun o H2 => o = none ∧ H2 = H1) I1 ⟨rfl, rfl⟩) fun vl s2 ⟨l, H2, I2, pl, el, e2⟩ => ?_)
  subst el e2
  refine thn (po_none.run pins s2 σ H2 (fun o H3 => o = none ∧ H3 = H2) I2 ⟨rfl, rfl⟩) fun vu s3 ⟨u, H3, I3, pu, eu, e3⟩ => ?_
  subst eu e3
  refine thn ((po_some hk).run pins s3 σ H3 _ I3 q1) fun vs s4 ⟨o, H4, I4, ps, a, xs, z, ex, hx, eo, hz1, q⟩ => ?_
  subst ex eo
  cases r1
  have I5 : Inv X pins σ H4 { s4 with heap := s4.heap.push { cls := .type "slice", data := .fields #[vl, vu, vs] } } := I4.kept (t' := s4.toks) fun b ob q => Heap.get?_push_of_some _ q
  obtain ⟨its, r, ht, hz⟩ := I5.list hx
  have hlen := r.length
  show wpAny (model X.prog X.w) X.A (subscriptTail e (.Slice none none (some ek) p3) (.ref a) (.ref s4.heap.objs.size)) (EP X pins σ Q) X.xe { s4 with heap := s4.heap.push { cls := .type "slice", data := .fields #[vl, vu, vs] } }
  refine tail_any (ops := [.ref a, .ref s4.heap.objs.size]) ht.isList.typeIs (PySem.slot_list_getitem.lookup) ?_ (by with_unfolding_all rfl)
  refine wpAny_getItem_list_slice ht.isList (Heap.IsSliceOf.new _ vl vu vs) pl pu ps (by rcases hz1 with rfl | rfl <;> decide) ?_ (by rw [List.size_toArray]; omega)
  rcases hz1 with rfl | rfl
  · rw [slice_one, slicePick_cut]
    have e : (its.drop (HT.sIx its.length 0 none)).take (HT.sIx its.length its.length none - HT.sIx its.length 0 none) = its := by rw [HT.sIx_none, HT.sIx_none]; simp
    rw [e]
    exact ⟨.ref _, _, I5.laid (t' := s4.toks) (o := .lst xs) (fun b ob q => Heap.get?_push_of_some _ q) (Nat.le_refl _) ⟨hz, _, 0, r, Heap.get?_push_size _ rfl⟩, rfl, q _ (I5.hok.fresh (Nat.le_refl _))⟩
  · rw [PySem.W.krv_pick]
    refine ⟨.ref _, _, I5.laid (t' := s4.toks) (o := .lst xs.reverse) (fun b ob q => Heap.get?_push_of_some _ q) (Nat.le_refl _) ?_, rfl, q _ (I5.hok.fresh (Nat.le_refl _))⟩
    exact ⟨by rw [List.length_reverse]; exact hz, _, 0, r.reverse, Heap.get?_push_size _ rfl⟩
omit hc in
theorem RepL.rev {K : Frag} {H : Hp} : ∀ {ds : List D} {vs : List V}, RepL K H ds vs → RepL K H ds.reverse vs.reverse
  | [], _, e => by cases e; exact .nil
  | d :: ds, _, ⟨v, vr, e, r, rr⟩ => by
    subst e
    rw [List.reverse_cons, List.reverse_cons]
    exact RepL.append (RepL.rev rr) (.cons r .nil)
theorem snd_stp {a k : R} {ea ek : Expr} {p3 pos : Pos} (ha : PE X ea (liftE X.K cx (wpE T c a))) (hk : PE X ek (liftE X.K cx (wpE T c k))) : PE X (.Subscript ea (.Slice none none (some ek) p3) pos) (liftE X.K cx (wpE T c (.stp a k))) :=
  peImp (pe_stpL ha hk) fun σ H Q ⟨S, σ2, hr, rs, w⟩ => stepE hc hr rs w fun x S1 v H1 hr1 k1 rs1 r1 w => stepE hc hr1 rs1 w fun y S2 u H2 hr2 k2 rs2 r2 ⟨z, ez, hz, w⟩ => by
    subst ez
    cases r2.1
    obtain ⟨cn, ⟨ds, rfl, x', ex, q⟩, hcn⟩ := view_of hr2 (r1.1.keep k2 hr1) w
    obtain ⟨a, vs, rfl, ha, rv⟩ := hcn
    cases ex
    refine ⟨z, rfl, a, vs, z, rfl, SqL.of ha, rfl, hz, fun p n => fin_vl (KVof.of (k1.trans k2) q) hr2 ?_ p n⟩
    split
    · exact rv
    · exact rv.rev
end
section
variable {prog : Program} {w : World} {K : Type} [DecidableEq K] {knd : KeyKind prog w K} {A : Around}
theorem keyOf_end {s : Shared} {E : Value → Shared → Prop} {it d : Addr} {i n ep : Nat} {od : Obj} {es : Array DictEntry} {Q : Value → Shared → Prop} (hh : A.handled = none) (hit : s.heap.IsKeyIter it d i n ep) (hod : s.heap.get? d = some od) (hdd : od.data = .dict es ep) (hsz : es.size = n) (hge : n ≤ i)
    (hE : ∀ h' e, Heap.ExtBut it s.heap h' → (∃ o, h'.get? e = some o ∧ o.cls = .type "StopIteration") → E (.ref e) { s with heap := h' }) : wpAny (model prog w) A (Builtin.SmallTypes.nextOf (.ref it)) Q E s := by
  obtain ⟨o, ho, hc, hd⟩ := id hit; unfold Builtin.SmallTypes.nextOf
  refine wpAny_bind (wpAny_callSpecial?_slot (name := Str.ofString "__next__") hit.typeIs F.slot_dict_keyiterator_next (wpAny_call_entry F.slot_dict_keyiterator_next hit.typeIs F.entry_dict_keyiterator_next ?_ (F.args_dict_keyiterator_next_1 _)))
  refine wpAny_bind (wpAny_pure ?_); refine wpAny_bind ?_; refine wpAny_bind ?_
  refine wpAny_bind (wpAny_typeNameOfWhole_keyiter hit.typeIs (wpAny_pure ?_)); refine wpAny_bind (wpAny_fieldsOf ho hd ?_)
  simp only [show Builtin.Dict_items.ownsTuple "dict_keyiterator" = false by decide, Bool.false_eq_true, if_false]
  show wpAny _ _ (if (Value.ref d == Value.none) = true then _ else _) _ _ s; rw [if_neg (show ¬ ((Value.ref d == Value.none) = true) from Bool.false_ne_true)]
  refine wpAny_bind (wpAny_pure ?_); refine wpAny_bind (wpAny_dictEntries hod hdd ?_); rw [if_neg (by rw [hsz]; simp)]
  refine wpAny_bind (wpAny_pure ?_); refine wpAny_bind (wpAny_dictEpoch hod hdd ?_); rw [if_neg (by simp)]; refine wpAny_pure ?_
  simp only [show ¬ ((i : Int) < 0) from by omega, if_false, Int.toNat_natCast, Array.getElem?_eq_none (show es.size ≤ i by rw [hsz]; exact hge)]
  refine wpAny_bind ?_; refine wpAny_bind (wpAny_typeNameOfWhole_keyiter hit.typeIs (wpAny_pure ?_))
  show wpAny _ _ (setField (.ref it) 0 .none >>= _) _ _ s; refine wpAny_bind (wpAny_setField ho hd (by simp) ?_)
  show wpAny _ _ (newExc (.type "StopIteration") [] >>= _) _ _ _; refine wpAny_bind ?_; simp only [newExc, newTuple]
  refine wpAny_bind (wpAny_newObj_type ?_ (by size_fits)); refine wpAny_bind (m := firstArgMember _ _) (wpAny_of_eq (a := Value.none) (by first | rfl | (simp only [firstArgMember]; rfl)) ?_)
  refine wpAny_newObj_type ?_ (by size_fits); simp only [raiseNew]; refine wpAny_bind (wpAny_handled ?_)
  rw [show A.in1.handled = none from hh]; refine wpAny_bind (wpAny_pure (wpAny_throw ?_))
  exact hE _ _ (((Heap.SameBut.update ..).extBut.push _).push _) ⟨_, Heap.get?_push_size _ rfl, rfl⟩
theorem drawsK (hh : A.handled = none) (it d : Addr) (hne : d ≠ it) (kvs : List (K × Value)) (ep : Nat) :
    Draws prog w A it [it, d] kvs.length (fun i v => ∃ k x, kvs[i]? = some (k, x) ∧ knd.is k v = true) (fun i h => h.IsKeyIter it d i kvs.length ep ∧ h.DictAt knd d kvs ep) where
  live := fun _ _ st => let ⟨o, ho, _⟩ := st.1; ⟨o, ho⟩
  frame := fun _ _ _ st hk => ⟨st.1.at fun o e => hk it (by simp) o e, st.2.at' fun o e => hk d (by simp) o e⟩
  item := fun i s Q E hi st hQ => by
    obtain ⟨⟨k, x⟩, hkv⟩ : ∃ p, kvs[i]? = some p := ⟨kvs[i], List.getElem?_eq_getElem hi⟩
    unfold Builtin.SmallTypes.nextOf
    refine wpAny_bind (PySem.W.kdk_special st.1 st.2 hkv fun key h' hk st' sb => ?_)
    exact wpAny_pure (hQ key h' s.toks ⟨k, x, hkv, hk⟩ ⟨st', st.2.at' fun o e => (sb.2 d hne).trans e⟩ sb)
  done := fun s Q E st hE => by
    obtain ⟨od, es, hod, hcd, hdd, hk, hp, hn⟩ := st.2
    refine keyOf_end hh st.1 hod hdd ?_ (Nat.le_refl _) hE
    have := hp.length
    simpa using this
end
theorem beginsK {d : Addr} {od : Obj} {es : Array DictEntry} {ep : Nat} (hd : (d == sysModules) = false) : Begins (.ref d) { cls := .type "dict_keyiterator", data := .fields #[.ref d, .int 0 0, .int es.size 0, .int ep 0] } fun h => h.get? d = some od ∧ od.ExactDict ∧ od.data = .dict es ep where
  iter := fun prog' w' A E s Q hm h => iter_keys hd hm.1 hm.2.1 hm.2.2 h
  keeps := fun h h' x hk => ⟨hk d _ x.1, x.2⟩
  free := rfl
noncomputable def IteK (d : Addr) (o : Obj) (kvs : List (Key × V)) : It :=
  ⟨fun i H => H d = some (.frz o (.dK kvs)) ∧ i < kvs.length, fun i H x H' => ∃ T k v, kvs[i]? = some (k, v) ∧ x = .ref T ∧ H T = none ∧ H' = upd H T (.tup [.int (i : Nat), kV k]), fun i H => H d = some (.frz o (.dK kvs)) ∧ kvs.length = i⟩
theorem turn_enumK {P : Program} {w : World} {K : PySem.W.Frag} {elts : List Expr} {kk : Nat} {tpos : Pos} {d : Addr} {o : Obj} {es : Array DictEntry} {ep : Nat} {kvs : List (Key × V)} (e it : Addr) (hod : o.data = .dict es ep) :
    Turn P w K (.Tuple elts kk tpos) (IteK d o kvs) [e, it] e (fun i h => (∃ old, IsEnum h e it ((i : Nat) : Int) old) ∧ h.IsKeyIter it d i kvs.length ep ∧ e ≠ it) where
  mem := by simp
  obj := fun i h st b hb => by
    obtain ⟨⟨old, he⟩, ⟨oi, ho, hc, hd⟩, _⟩ := st
    rcases (by simpa using hb : b = e ∨ b = it) with z | z
    · rw [z]; exact ⟨_, he, fun v q => nomatch q⟩
    · rw [z]; exact ⟨oi, ho, fun v q => by rw [hd] at q; cases q⟩
  keep := fun i h h' st k => let ⟨⟨old, he⟩, hi, hne⟩ := st; ⟨⟨old, k e (by simp) _ he⟩, hi.at fun o q => k it (by simp) o q, hne⟩
  item := by
    intro X hP hw hK hc i pins s σ H E I hf st hg
    subst hP hw hK
    obtain ⟨⟨old, he⟩, hit, hne⟩ := st
    obtain ⟨hd, hi⟩ := hg
    obtain ⟨hs, hgd, hx, es', ep', vs, hdt, hsz, kv, hm⟩ := I.frzK hd
    obtain ⟨rfl, rfl⟩ := dict_ep hod hdt
    have hl : kvs.length = vs.length := Paired.length kv
    have hel : e < s.heap.objs.size := Heap.lt_size he
    have hil : it < s.heap.objs.size := by obtain ⟨_, q, _⟩ := hit; exact Heap.lt_size q
    have hde : d ≠ it := fun z => by
      subst z; obtain ⟨oi, q, c, _⟩ := hit; rw [hgd] at q; cases q; exact absurd (hx.1.symm.trans c) (by decide +kernel)
    have hdx : d ≠ e := fun z => by
      subst z; have he2 : s.heap.get? d = some _ := he; rw [hgd] at he2; cases he2; exact absurd (show Value.type "enumerate" = Value.type "dict" from hx.1) (by decide +kernel)
    rw [hl] at hit
    refine wpAny_pyNext_enum_itemD (drawsK (prog := X.prog) (w := X.w) (A := X.A.in1) (show X.A.in1.handled = none from I.ok.hd hc) it d hde vs ep') he ⟨hit, hm⟩ (by omega) hne (by simp [hne, Ne.symm hdx]) fun u h' tk hP ho hst' hT hsz hk => ?_
    obtain ⟨k, x, hkv, hkey⟩ := hP
    obtain ⟨⟨k', v⟩, hkv'⟩ : ∃ p, kvs[i]? = some p := ⟨kvs[i], List.getElem?_eq_getElem hi⟩
    obtain ⟨u', hu, ru⟩ := kv_get kv hkv'
    have ek : k' = k := by rw [hu] at hkv; cases hkv; rfl
    subst ek
    have rk : RelV (kV k') u := relV_key (show keyIs k' u = true from hkey)
    refine ⟨_, rfl, wpAny_letOwnedTupleGo_enum (s := { s with heap := h', toks := tk + 1 }) ho fun h'' he' sb => ?_⟩
    have hT2 := (sb.2 _ (Nat.ne_of_gt hel)).trans hT
    have new : ObjOk X.prog X.w (upd H s.heap.objs.size (.tup [.int (i : Nat), kV k'])) h'' s.heap.objs.size (.tup [.int (i : Nat), kV k']) := ⟨show 2 ≤ sizeLine by decide, [.int i tk, u], .cons ⟨_, rfl⟩ (.cons rk .nil), ⟨_, hT2, rfl, _, rfl⟩⟩
    have I1 := I.turnedNew (t' := tk + 1) (ch := [e, it]) (fun b ob hb q => (sb.2 b (fun z => hb (by simp [z]))).trans (hk b ob (fun z => hb (by simp [z])) (fun z => hb (by simp [z])) q)) hf (Nat.le_refl _) new
    refine ⟨.ref s.heap.objs.size, _, I1, rfl, ⟨_, k', v, hkv', rfl, I.hok.fresh (Nat.le_refl _), rfl⟩, ⟨⟨u, ?_⟩, ?_, hne⟩, fun b hb => ?_⟩
    · rw [show ((i + 1 : Nat) : Int) = (i : Int) + 1 by omega]; exact he'
    · rw [hl]; exact hst'.1.at fun o q => (sb.2 it (Ne.symm hne)).trans q
    · have hb' : b < s.heap.objs.size := by
        rcases (by simpa using hb : b = e ∨ b = it) with z | z
        · rw [z]; exact hel
        · rw [z]; exact hil
      rw [upd_ne (Nat.ne_of_lt hb')]; exact (hf b hb).1
  done := by
    intro X hP hw hK hc i pins s σ H E I hf st hg
    subst hP hw hK
    obtain ⟨⟨old, he⟩, hit, hne⟩ := st
    obtain ⟨hd, hi⟩ := hg
    obtain ⟨hs, hgd, hx, es', ep', vs, hdt, hsz, kv, hm⟩ := I.frzK hd
    obtain ⟨rfl, rfl⟩ := dict_ep hod hdt
    obtain ⟨f0, f1, f2, f3, f4, f5⟩ := hf it (by simp)
    have hl : kvs.length = vs.length := Paired.length kv
    have hde : d ≠ it := fun z => by
      subst z; obtain ⟨oi, q, c, _⟩ := hit; rw [hgd] at q; cases q; exact absurd (hx.1.symm.trans c) (by decide +kernel)
    rw [hl] at hit
    have hs2 : vs.length = i := by omega
    rw [← hs2] at hit he
    exact wpAny_pyNext_enum_endD (drawsK (prog := X.prog) (w := X.w) (A := X.A.in1) (show X.A.in1.handled = none from I.ok.hd hc) it d hde vs ep') he ⟨hit, hm⟩ fun h' eb => ⟨rfl, I.turned (t' := s.toks) (fun b o hb q => eb b o hb q) f0 f1 f3 f4 f5⟩
  self := fun A i s Q E st h => let ⟨⟨_, he⟩, _⟩ := st; wpAny_pyIter_enum he h
noncomputable def iEnumK (ta : TA) : TI := fun σ H R => ta σ H fun vs H1 => ∃ d o kvs, vs = [.ref d] ∧ H1 d = some (.frz o (.dK kvs)) ∧ R (IteK d o kvs) H1
theorem pi_enumK {X : Cx} {e : Expr} {ta : TA} {p pos tpos : Pos} {elts : List Expr} {kk : Nat} (hg : Gl X "enumerate") (hm : X.mg "enumerate" = none) (ha : PA X [e] ta) (hs : starEach [e] X.env = [(false, eval e X.env)]) :
    PI X (.Tuple elts kk tpos) (.Call (.Name "enumerate" p) [e] [] pos) (iEnumK ta) := by
  refine ⟨fun pins s σ H R I h => Call_ (ld_blt I hg hm boot_enumerate (PyProof.Rows.callWith_type1 (thn (ha.run pos pins s σ H _ I h) fun us s1 ⟨vs, H1, I1, r1, q1⟩ => ?_) hs rfl))⟩
  obtain ⟨d, o, kvs, ex, hd, q⟩ := q1
  subst ex
  cases r1 with
  | cons r rr =>
    cases rr
    cases r
    have fp2 : ∀ b ∈ [s1.heap.objs.size + 1, s1.heap.objs.size], FpOk X pins H1 b := fun b hb => by
      have hle : s1.heap.objs.size ≤ b := by rcases (by simpa using hb : b = s1.heap.objs.size + 1 ∨ b = s1.heap.objs.size) with z | z <;> omega
      exact I1.fpOk hle (I1.hok.fresh hle)
    obtain ⟨hsm, hgd, hx, es, ep, vs, hdt, hsz, kv, hmm⟩ := I1.frzK hd
    refine call_enumT (beginsK hsm) ⟨hgd, hx, hdt⟩ fun h' he hit hz hk => wpAny_pyIter_enum he ?_
    have I2 : Inv X pins σ H1 { s1 with heap := h' } := I1.kept (t' := s1.toks) hk
    refine ⟨s1.heap.objs.size + 1, [s1.heap.objs.size + 1, s1.heap.objs.size], _, _, H1, rfl, I2, turn_enumK (s1.heap.objs.size + 1) s1.heap.objs.size hdt, ⟨⟨.none, he⟩, ⟨_, hit, rfl, ?_⟩, Nat.succ_ne_self _⟩, fp2, q⟩
    rw [hsz]; rfl
section
variable {X : Cx} {T : Tbl} {c : Nat → List Vx → Hs → VK2 → Prop} {cx : Cls2} (hc : CalMono c)
include hc
theorem walk_enuk {a : R} {ea : Expr} {elts : List Expr} {kk : Nat} {p pos tpos : Pos} (hg : Gl X "enumerate") (hm : X.mg "enumerate" = none) (hs : starEach [ea] X.env = [(false, eval ea X.env)]) (ha : PE X ea (liftE X.K cx (wpE T c a))) :
    PI X (.Tuple elts kk tpos) (.Call (.Name "enumerate" p) [ea] [] pos) (liftI X.K cx (.enuk a) (wpI T c (.enuk a))) :=
  piImp hc (pi_enumK hg hm (pa_cons ha pa_nil hs) hs) fun σ H R ⟨S, σ2, hr, rs, w⟩ => stepE hc hr rs w fun x S1 v H1 hr1 k1 rs1 r1 ⟨b, kvs, z, ex, eb, w⟩ => by
    subst ex
    cases r1.1
    obtain ⟨h, o, ks, rfl, rd⟩ := hr1 b _ eb
    refine ⟨b, o, ks, rfl, h, w _ H1 hr1 k1 fun Pz hz S' H' σ' hr' k' ok i => ?_⟩
    obtain ⟨h', o', ks', e', rd'⟩ := hr' b _ ok
    cases e'
    have hl : kvs.length = ks.length := DicR.length rd'
    refine ⟨fun d e => ?_, fun e => ⟨h', by rw [← hl]; rw [enumD_length, List.length_map] at e; omega⟩⟩
    obtain ⟨x, e1, rfl⟩ := enumD_get _ _ _ _ e
    rw [List.getElem?_map] at e1
    obtain ⟨p, e2, rfl⟩ := Option.map_eq_some_iff.mp e1
    obtain ⟨k, v, h1, h2, h3⟩ := dicR_get rd' e2
    refine ⟨⟨h', (List.getElem?_eq_some_iff.mp h1).1⟩, fun x H2 y => ?_⟩
    obtain ⟨T', k', v', h4, rfl, n, rfl⟩ := y
    rw [h1] at h4; cases h4
    rw [Nat.zero_add]
    exact pair_new hr' n rfl (keyR_rep h2)
end
section
variable {X : Cx}
theorem pe_getN {o e f : Expr} {td ty tx : TE} {apos cpos : Pos} {cx : Cls2} (hu : X.A.units + 62 < cLine) (hw : cx.w = X.w) (ho : PE X o td) (he : PE X e ty) (hf : PE X f tx) (m : M2 X o "get" apos e f cpos) :
    PE X (.Call (.Attribute o "get" apos) [e, f] [] cpos) (fun σ H Q => td σ H fun x H1 => ∃ a xs0, x = .ref a ∧ DnAt X.w H1 a xs0 ∧ ty σ H1 fun y H2 => tx σ H2 fun z H3 => ∃ (kvs : List (D × D)) (xs : List NE) (kd dz : D), keyN kd = true ∧ RepV X.K H3 kd y ∧ RepV X.K H3 dz z ∧ DnAt X.w H3 a xs ∧ DnOk X.K H3 a kvs xs ∧
      ∀ zv, RepV X.K H3 ((dget kvs kd).getD dz) zv → Q zv H3) := by
  refine ⟨fun pins s σ H Q I h => ?_⟩
  refine wpAny_Call_method m.base m.few m.line PySem.F.plainAttrs_dict PySem.F.slot_dict_get PySem.F.type_dict_get (thn (ho.run pins s σ H _ I h) fun u s1 ⟨x, H1, I1, rx, a, xs0, ex, d0, q1⟩ => ?_)
  subst ex
  obtain rfl : u = Value.ref a := rx
  obtain ⟨od, es, ep, hod, hex, hdd, _⟩ := dn_obj I1 d0
  refine ⟨⟨od, hod, hex.1⟩, fun b eb => by cases eb; exact ⟨od, hod, hex.2.1⟩, ?_⟩
  rw [m.trees]
  refine Calls.callWith_builtin rfl (Calls.evalArgs_plain (Calls.spliced_cons (thn (he.run pins s1 σ H1 _ I1 q1) fun iv s2 ⟨y, H2, I2, ry, q2⟩ =>
    Calls.spliced_cons (thn (hf.run pins s2 σ H2 _ I2 q2) fun fv s3 ⟨z, H3, I3, rz, kvs, xs, kd, dz, hk, rk, rd, da, dok, q3⟩ => Calls.spliced_nil ?_))))
  obtain ⟨b, rfl, rfl, hkey⟩ := key_is I3 hk rk ry
  refine getOr_keyed (knd := nestedKind X.prog X.w) (kvs := pairsH xs) (show X.A.units + 1 + 8 < cLine by omega) hkey dok.m ⟨xs, dn_of I3 da dok, rfl⟩ ?_
  rw [valueAt_pairsH]
  cases hg : dget kvs kd with
  | some y =>
    obtain ⟨p, zv, h1, h2, h3⟩ := (dok.r.get hk).1 y hg
    rw [h1]
    exact ⟨zv, H3, I3.tok _, h2, q3 zv (by rw [hg]; exact h3)⟩
  | none =>
    have h1 : atKey xs (nkD kd) = none := by
      have := dok.r.has hk
      unfold dhas at this
      rw [hg] at this
      cases q : atKey xs (nkD kd) with
      | none => rfl
      | some p => rw [q] at this; cases this
    rw [h1]
    exact ⟨z, H3, I3.tok _, rz, q3 z (by rw [hg]; exact rd)⟩
end
section
variable {X : Cx} {T : Tbl} {c : Nat → List Vx → Hs → VK2 → Prop} {cx : Cls2} (hc : CalMono c)
include hc
theorem snd_get2N {o k d : R} {eo ek ed : Expr} {apos cpos : Pos} (hu : X.A.units + 62 < cLine) (hw : cx.w = X.w) (ho : PE X eo (liftE X.K cx (wpE T c o))) (hk : PE X ek (liftE X.K cx (wpE T c k))) (hd : PE X ed (liftE X.K cx (wpE T c d))) (m : M2 X eo "get" apos ek ed cpos) :
    PE X (.Call (.Attribute eo "get" apos) [ek, ed] [] cpos) (liftE X.K cx (wpE T c (.get2N o k d))) :=
  peImp (pe_getN (cx := cx) hu hw ho hk hd m) fun σ H Q ⟨S, σ2, hr, rs, w⟩ => stepE hc hr rs w fun x S1 v H1 hr1 k1 rs1 r1 ⟨a, kvs0, ex, e0, w⟩ => by
    subst ex
    cases r1.1
    obtain ⟨xs0, h0, _⟩ := hr1 a _ e0
    refine ⟨a, xs0, rfl, .inl (by rw [← hw]; exact h0), stepE hc hr1 rs1 w fun y S2 yv H2 hr2 k2 rs2 r2 w => stepE hc hr2 rs2 w fun z S3 zv H3 hr3 k3 rs3 r3 w => ?_⟩
    obtain ⟨kvs, ky, dz, rfl, rfl, hky, e3, q⟩ := w
    obtain ⟨xs, h3, ok3⟩ := hr3 a _ e3
    have ry := RepV.keep (k3.tups hr2) _ _ r2.1
    exact ⟨kvs, xs, ky, dz, hky, ry, r3.1, .inl (by rw [← hw]; exact h3), ok3, fun zv' rz' => let ⟨x', ex', q⟩ := q; by cases ex'; exact fin_d (KVof.of ((k1.trans k2).trans k3) q) hr3 rz'⟩
end
noncomputable def KdOk (K : Frag) (w : World) (mg : Str → Option Value) (x : Str) (kvs : List (List Nat × D)) : Prop :=
  ∃ d es n, mg x = some (.ref d) ∧ KDict K w d es n ∧ ∀ s : List Nat, (kvs.lookup s = none → PySem.W.nsIn K d (sv s) = some none) ∧
    ∀ v, kvs.lookup s = some v → ∃ u vv, PySem.W.nsIn K d (sv s) = some (some u) ∧ RelV vv u ∧ ∀ H, RepV K H v vv
section
variable {X : Cx}
theorem ix_kd {d : Addr} {es : Array DictEntry} {n : Nat} (D : KDict X.K X.w d es n) : IxR X (fun x y H Q => ∃ (z : Str) (u0 : Value) (v0 : V), x = .ref d ∧ y = .str z ∧ PySem.W.nsIn X.K d z = some (some u0) ∧ RelV v0 u0 ∧ Q v0 H) := by
  intro value slice pins s σ H x y v u Q I rx ry h hs
  have g := op_item_kd D pins s σ H x y v u Q I rx ry h
  obtain ⟨z, u0, v0, rfl, rfl, e, r, q⟩ := h
  cases rx
  exact tail_any (kd_type D I) slot_dict_getitem.lookup g hs
end
section
variable {X : Cx} {T : Tbl} {c : Nat → List Vx → Hs → VK2 → Prop} {cx : Cls2} (hc : CalMono c)
include hc
theorem snd_kmem {neg : Bool} {op : CmpOp} (ho : (match op with | .In => !neg | .NotIn => neg | _ => false) = true) {k : Nat} {a : R} {ea : Expr} {x : Str} {p pos : Pos} (hd : KdOk X.K X.w X.mg x (T.kd k)) (hg : Gl X x) (hx : (x == ("__debug__" : Str)) = false) (ha : PE X ea (liftE X.K cx (wpE T c a))) :
    PE X (.Compare ea [op] [.Name x p] pos) (liftE X.K cx (wpE T c (.kmem neg k a))) := by
  obtain ⟨d, es, n, hm, D, hk⟩ := hd
  cases op with
  | In =>
    have hn : neg = false := by simpa using ho
    subst hn
    refine peImp (pe_cmpR (op_in_kd D) ha (pe_glob (v := .ref d) hg hm rfl hx) rfl) fun σ H Q ⟨S, σ2, hr, rs, w⟩ => stepE hc hr rs w fun y S1 v H1 hr1 k1 rs1 r1 ⟨s, ey, q⟩ => ?_
    subst ey
    cases r1.1
    cases hl : (T.kd k).lookup s with
    | none => exact ⟨sv s, none, rfl, rfl, (hk s).1 hl, kE_bl hc (by rw [hl] at q; exact q) k1 hr1⟩
    | some z =>
      obtain ⟨u, vv, h1, _⟩ := (hk s).2 z hl
      exact ⟨sv s, some u, rfl, rfl, h1, kE_bl hc (by rw [hl] at q; exact q) k1 hr1⟩
  | NotIn =>
    have hn : neg = true := by simpa using ho
    subst hn
    refine peImp (pe_cmpR (op_notIn_kd D) ha (pe_glob (v := .ref d) hg hm rfl hx) rfl) fun σ H Q ⟨S, σ2, hr, rs, w⟩ => stepE hc hr rs w fun y S1 v H1 hr1 k1 rs1 r1 ⟨s, ey, q⟩ => ?_
    subst ey
    cases r1.1
    cases hl : (T.kd k).lookup s with
    | none => exact ⟨sv s, none, rfl, rfl, (hk s).1 hl, kE_bl hc (by rw [hl] at q; exact q) k1 hr1⟩
    | some z =>
      obtain ⟨u, vv, h1, _⟩ := (hk s).2 z hl
      exact ⟨sv s, some u, rfl, rfl, h1, kE_bl hc (by rw [hl] at q; exact q) k1 hr1⟩
  | _ => cases ho
theorem tst_kmem {neg : Bool} {op : CmpOp} (ho : (match op with | .In => !neg | .NotIn => neg | _ => false) = true) {k : Nat} {a : R} {ea : Expr} {x : Str} {p pos : Pos} (hd : KdOk X.K X.w X.mg x (T.kd k)) (hg : Gl X x) (hx : (x == ("__debug__" : Str)) = false) (ha : PE X ea (liftE X.K cx (wpE T c a))) :
    PT X (.Compare ea [op] [.Name x p] pos) (liftT X.K cx (wpE T c (.kmem neg k a))) := by
  obtain ⟨d, es, n, hm, D, hk⟩ := hd
  cases op with
  | In =>
    have hn : neg = false := by simpa using ho
    subst hn
    refine ptImp (pt_cmpR (op_in_kd D) ha (pe_glob (v := .ref d) hg hm rfl hx) rfl) fun σ H Q ⟨S, σ2, hr, rs, w⟩ => stepE hc hr rs w fun y S1 v H1 hr1 k1 rs1 r1 ⟨s, ey, q⟩ => ?_
    subst ey
    cases r1.1
    obtain ⟨b, e, q⟩ := kT_elim hc q
    cases hl : (T.kd k).lookup s with
    | none =>
      rw [hl] at e
      cases e
      exact ⟨sv s, none, rfl, rfl, (hk s).1 hl, _, rfl, q H1 hr1 k1⟩
    | some z =>
      obtain ⟨u, vv, h1, _⟩ := (hk s).2 z hl
      rw [hl] at e
      cases e
      exact ⟨sv s, some u, rfl, rfl, h1, _, rfl, q H1 hr1 k1⟩
  | NotIn =>
    have hn : neg = true := by simpa using ho
    subst hn
    refine ptImp (pt_cmpR (op_notIn_kd D) ha (pe_glob (v := .ref d) hg hm rfl hx) rfl) fun σ H Q ⟨S, σ2, hr, rs, w⟩ => stepE hc hr rs w fun y S1 v H1 hr1 k1 rs1 r1 ⟨s, ey, q⟩ => ?_
    subst ey
    cases r1.1
    obtain ⟨b, e, q⟩ := kT_elim hc q
    cases hl : (T.kd k).lookup s with
    | none =>
      rw [hl] at e
      cases e
      exact ⟨sv s, none, rfl, rfl, (hk s).1 hl, _, rfl, q H1 hr1 k1⟩
    | some z =>
      obtain ⟨u, vv, h1, _⟩ := (hk s).2 z hl
      rw [hl] at e
      cases e
      exact ⟨sv s, some u, rfl, rfl, h1, _, rfl, q H1 hr1 k1⟩
  | _ => cases ho
theorem snd_kidx {k : Nat} {a : R} {ea : Expr} {x : Str} {p pos : Pos} (hd : KdOk X.K X.w X.mg x (T.kd k)) (hg : Gl X x) (hx : (x == ("__debug__" : Str)) = false) (hp : PlainIx ea) (ha : PE X ea (liftE X.K cx (wpE T c a))) :
    PE X (.Subscript (.Name x p) ea pos) (liftE X.K cx (wpE T c (.kidx k a))) := by
  obtain ⟨d, es, n, hm, D, hk⟩ := hd
  refine peImp (pe_ix (ix_kd D) (pe_glob (v := .ref d) hg hm rfl hx) ha hp) fun σ H Q ⟨S, σ2, hr, rs, w⟩ => show liftE X.K cx (wpE T c a) σ H _ from stepE hc hr rs w fun y S1 v H1 hr1 k1 rs1 r1 ⟨s, z, ey, hl, q⟩ => ?_
  subst ey
  cases r1.1
  obtain ⟨u, vv, h1, h2, h3⟩ := (hk s).2 z hl
  exact ⟨sv s, u, vv, rfl, rfl, h1, h2, let ⟨x', ex', q⟩ := q; by cases ex'; exact fin_d (KVof.of k1 q) hr1 (h3 H1)⟩
end
noncomputable def toPr (l : List Int) : Int × Int := (l.getD 0 0, l.getD 1 0)
theorem keys_of {K : Frag} {H : Hp} : ∀ {ps : List (Int × Int)} {vs : List V}, Paired (fun (p : Int × Int) (v : V) => ∃ t, v = .ref t ∧ SqT K H t [.int p.1, .int p.2]) ps vs →
    ∃ ks : List (Addr × List Int), vs = ks.map (fun p => V.ref p.1) ∧ ks.map (·.2) = ps.map (fun p => [p.1, p.2]) ∧ ∀ k ∈ ks, SqT K H k.1 (k.2.map V.int)
  | _, _, .nil => ⟨[], rfl, rfl, fun k h => by cases h⟩
  | p :: ps, v :: vs, .cons h r => by
    obtain ⟨t, rfl, h⟩ := h
    obtain ⟨ks, e1, e2, e3⟩ := keys_of r
    exact ⟨(t, [p.1, p.2]) :: ks, by rw [e1]; rfl, by simp [e2], List.forall_mem_cons.mpr ⟨h, e3⟩⟩
theorem snd_of {ks : List (Addr × List Int)} {ps : List (Int × Int)} (e : ks.map (·.2) = ps.map (fun p => [p.1, p.2])) {k : Addr × List Int} (h : k ∈ ks) : toPr k.2 ∈ ps ∧ k.2 = [(toPr k.2).1, (toPr k.2).2] := by
  have : k.2 ∈ ps.map (fun p => [p.1, p.2]) := by rw [← e]; exact List.mem_map.mpr ⟨k, h, rfl⟩
  obtain ⟨p, hp, e2⟩ := List.mem_map.mp this
  rw [← e2]
  exact ⟨hp, rfl⟩
theorem prs_nodup {ks : List (Addr × List Int)} {ps : List (Int × Int)} (e : ks.map (·.2) = ps.map (fun p => [p.1, p.2])) : ∀ {L : List (Addr × List Int)}, (L.map (·.2)).Nodup → (∀ p ∈ L, p ∈ ks) → (L.map fun p => toPr p.2).Nodup
  | [], _, _ => List.nodup_nil
  | k :: L, h, hs => by
    rw [List.map_cons, List.nodup_cons] at h
    rw [List.map_cons, List.nodup_cons]
    refine ⟨fun z => h.1 ?_, prs_nodup e h.2 fun p hp => hs p (List.mem_cons_of_mem _ hp)⟩
    obtain ⟨q, hq, e2⟩ := List.mem_map.mp z
    refine List.mem_map.mpr ⟨q, hq, ?_⟩
    rw [(snd_of e (hs q (List.mem_cons_of_mem _ hq))).2, (snd_of e (hs k List.mem_cons_self)).2, e2]
section
variable {X : Cx} {T : Tbl} {c : Nat → List Vx → Hs → VK2 → Prop} {cx : Cls2} (hc : CalMono c)
include hc
theorem snd_setP {a : R} {ea e : Expr} (hp : ∀ ta, PE X ea ta → PE X e (tSetP X.K ta)) (ha : PE X ea (liftE X.K cx (wpE T c a))) : PE X e (liftE X.K cx (wpE T c (.setP a))) :=
  peImp (hp _ ha) fun σ H Q ⟨S, σ2, hr, rs, w⟩ => stepE hc hr rs w fun x S1 v H1 hr1 k1 rs1 r1 w => by
    obtain ⟨cn, ⟨ps, rfl, ⟨hb, hfew⟩, q⟩, hcn⟩ := view_of hr1 r1.1 w
    obtain ⟨l, vs, rfl, hs, rv⟩ := hcn
    obtain ⟨ks, rfl, e2, e3⟩ := keys_of (reps_pairs rv)
    have bd : ∀ k ∈ ks, ((0 ≤ (toPr k.2).1 ∧ (toPr k.2).1 < 64) ∧ 0 ≤ (toPr k.2).2 ∧ (toPr k.2).2 < 64) := fun k hk => hb _ (snd_of e2 hk).1
    refine ⟨l, ks, rfl, SqL.of hs, e3, fun L hL hsub => ?_, fun k hk => ?_, fun L' p m1 m2 m3 m4 hn => ?_⟩
    · have := hfew (L.map fun p => toPr p.2) (prs_nodup e2 hL hsub) fun q hq => by
        obtain ⟨k, hk, rfl⟩ := List.mem_map.mp hq
        exact (snd_of e2 (hsub k hk)).1
      rw [List.length_map] at this
      exact this
    · have b := bd k hk
      rw [(snd_of e2 hk).2]
      refine ⟨rfl, fun x hx => ?_⟩
      rcases List.mem_cons.mp hx with rfl | hx
      · exact b.1
      · rcases List.mem_cons.mp hx with rfl | hx
        · exact b.2
        · cases hx
    · have key : ∀ L : List (Addr × List Int), (∀ q ∈ L, q ∈ ks) → L.Pairwise (fun q r => TS.code 64 q.2 ≤ TS.code 64 r.2) → srtP (L.map fun p => toPr p.2) := by
        intro L
        induction L with
        | nil => intro _ _; exact List.Pairwise.nil
        | cons k L ih =>
          intro hL hp
          rw [List.pairwise_cons] at hp
          refine List.pairwise_cons.mpr ⟨fun q hq => ?_, ih (fun q hq => hL q (List.mem_cons_of_mem _ hq)) hp.2⟩
          obtain ⟨r, hr2, rfl⟩ := List.mem_map.mp hq
          have h1 := hp.1 r hr2
          have hk := hL k List.mem_cons_self
          have hr3 := hL r (List.mem_cons_of_mem _ hr2)
          have b1 := bd k hk
          have b2 := bd r hr3
          rw [(snd_of e2 hk).2, (snd_of e2 hr3).2, code_pair, code_pair] at h1
          show ¬ ltP2 (toPr r.2) (toPr k.2)
          unfold ltP2
          omega
      have rep : ∀ L : List (Addr × List Int), (∀ q ∈ L, q ∈ ks) → RepL X.K H1 ((L.map fun p => toPr p.2).map pairD) (L.map fun q => V.ref q.1) := by
        intro L
        induction L with
        | nil => intro _; exact .nil
        | cons k L ih =>
          intro hL
          have hk := hL k List.mem_cons_self
          have h3 := e3 k hk
          rw [(snd_of e2 hk).2] at h3
          exact .cons ⟨k.1, _, rfl, h3, .cons rfl (.cons rfl .nil)⟩ (ih fun q hq => hL q (List.mem_cons_of_mem _ hq))
      have mem : ∀ q, q ∈ (L'.map fun p => toPr p.2) ↔ q ∈ ps := fun q => ⟨fun z => by
        obtain ⟨k, hk, rfl⟩ := List.mem_map.mp z
        exact (snd_of e2 (m1 k hk)).1, fun z => by
        have : [q.1, q.2] ∈ ks.map (·.2) := by rw [e2]; exact List.mem_map.mpr ⟨q, z, rfl⟩
        obtain ⟨k, hk, e4⟩ := List.mem_map.mp this
        have := m2 k hk
        obtain ⟨k', hk', e5⟩ := List.mem_map.mp this
        refine List.mem_map.mpr ⟨k', hk', ?_⟩
        show toPr k'.2 = q
        rw [show k'.2 = k.2 from e5, show k.2 = [q.1, q.2] from e4]
        rfl⟩
      obtain ⟨x, ex, q⟩ := q (L'.map fun p => toPr p.2) (prs_nodup e2 m3 m1) (key L' m1 m4) mem
      cases ex
      exact fin_vl (KVof.of k1 q) hr1 (rep L' m1) p hn
omit hc in
theorem pick_dn (items : Array Value) (i : Nat) (hi : i < items.size) : slicePick items none (some (i : Nat)) (some (-1)) = ((items.toList.drop (i + 1)).reverse).toArray := by
  unfold slicePick
  have eb : sliceBounds none (some ((i : Nat) : Int)) (some (-1)) items.size = ((items.size : Int) - 1, ((i : Nat) : Int), (-1 : Int)) := by
    unfold sliceBounds
    have h1 : ¬ ((-1 : Int) > 0) := by decide
    have h2 : ¬ (((i : Nat) : Int) < 0) := by omega
    simp only [Option.getD_some, h1, if_false, h2]
    congr 2
    omega
  rw [eb]
  show ((sliceRange ((items.size : Int) - 1) (i : Nat) (-1)).filterMap (items[·]?)).toArray = _
  have es : sliceRange ((items.size : Int) - 1) (i : Nat) (-1) = ((List.range (items.size - 1 - i)).map fun k => (i + 1) + k).reverse := by
    unfold sliceRange
    have h1 : ¬ ((-1 : Int) > 0) := by decide
    by_cases h : (items.size : Int) - 1 > (i : Nat)
    · have e : ((items.size : Int) - 1 - (i : Nat) - -1 - 1) / (- -1) = ((items.size - 1 - i : Nat) : Int) := by
        rw [show (- -1 : Int) = 1 by decide, Int.ediv_one]
        omega
      simp only [h1, if_false, h, if_true, e, Int.toNat_natCast]
      apply List.ext_getElem
      · simp
      · intro j h2 h3
        have hj : j < items.size - 1 - i := by simpa using h2
        rw [List.getElem_map, List.getElem_reverse, List.getElem_map, List.getElem_range, List.getElem_range, List.length_map, List.length_range]
        omega
    · have e : items.size - 1 - i = 0 := by omega
      rw [e]
      simp only [h1, if_false, h]
      rfl
  rw [es, List.filterMap_reverse, pick_run, List.take_of_length_le]
  rw [List.length_drop, Array.length_toList]; omega
noncomputable def tSlrL (K : PySem.W.Frag) (te th tk : TE) : TE := fun σ H Q => te σ H fun x H1 => tPart th σ H1 fun y H2 => tPart tk σ H2 fun o H3 => ∃ a xs i, x = .ref a ∧ SqL K H3 a xs ∧ y = some ((i : Nat) : Int) ∧ o = some (-1) ∧ i < xs.length ∧ ∀ p, H3 p = none → Q (.ref p) (upd H3 p (.lst ((xs.drop (i + 1)).reverse)))
omit hc in
theorem pe_slrL {e eh ek : Expr} {te th tk : TE} {p3 pos : Pos} (he : PE X e te) (hh : PE X eh th) (hk : PE X ek tk) : PE X (.Subscript e (.Slice none (some eh) (some ek) p3) pos) (tSlrL X.K te th tk) := by
  refine ⟨fun pins s σ H Q I h => ?_⟩
  refine Subscript_ (thn (he.run pins s σ H _ I h) fun v s1 ⟨x, H1, I1, r1, q1⟩ => ?_)
  refine wpAny_Slice (thn (po_none.run pins s1 σ H1 (fun o H2 => o = none ∧ H2 = H1) I1 ⟨rfl, rfl⟩) fun vl s2 ⟨l, H2, I2, pl, el, e2⟩ => ?_)
  subst el e2
  refine thn ((po_some hh).run pins s2 σ H2 _ I2 q1) fun vu s3 ⟨u, H3, I3, pu, q3⟩ => ?_
  refine thn ((po_some hk).run pins s3 σ H3 _ I3 q3) fun vs s4 ⟨o, H4, I4, ps, a, xs, i, ex, hx, ei, eo, hi, q⟩ => ?_
  subst ex ei eo
  cases r1
  have I5 : Inv X pins σ H4 { s4 with heap := s4.heap.push { cls := .type "slice", data := .fields #[vl, vu, vs] } } := I4.kept (t' := s4.toks) fun b ob q => Heap.get?_push_of_some _ q
  obtain ⟨its, r, ht, hz⟩ := I5.list hx
  have hlen := r.length
  show wpAny (model X.prog X.w) X.A (subscriptTail e (.Slice none (some eh) (some ek) p3) (.ref a) (.ref s4.heap.objs.size)) (EP X pins σ Q) X.xe { s4 with heap := s4.heap.push { cls := .type "slice", data := .fields #[vl, vu, vs] } }
  refine tail_any (ops := [.ref a, .ref s4.heap.objs.size]) ht.isList.typeIs (PySem.slot_list_getitem.lookup) ?_ (by with_unfolding_all rfl)
  refine wpAny_getItem_list_slice ht.isList (Heap.IsSliceOf.new _ vl vu vs) pl pu ps (by decide) ?_ (by rw [List.size_toArray]; omega)
  rw [pick_dn _ i (by rw [List.size_toArray]; omega)]
  refine ⟨.ref _, _, I5.laid (t' := s4.toks) (o := .lst ((xs.drop (i + 1)).reverse)) (fun b ob q => Heap.get?_push_of_some _ q) (Nat.le_refl _) ?_, rfl, q _ (I5.hok.fresh (Nat.le_refl _))⟩
  refine ⟨by rw [List.length_reverse, List.length_drop]; omega, _, 0, ?_, Heap.get?_push_size _ rfl⟩
  have : ∀ (n : Nat) {xs : List V} {ys : List Value}, Vals xs ys → Vals (xs.drop n) (ys.drop n) := by
    intro n
    induction n with
    | zero => intro xs ys h; exact h
    | succ n ih =>
      intro xs ys h
      cases h with
      | nil => exact .nil
      | cons h t => exact ih t
  exact (this _ r).reverse
theorem snd_slr {a h k : R} {ea eh ek : Expr} {p3 pos : Pos} (ha : PE X ea (liftE X.K cx (wpE T c a))) (hh : PE X eh (liftE X.K cx (wpE T c h))) (hk : PE X ek (liftE X.K cx (wpE T c k))) : PE X (.Subscript ea (.Slice none (some eh) (some ek) p3) pos) (liftE X.K cx (wpE T c (.slr a h k))) :=
  peImp (pe_slrL ha hh hk) fun σ H Q ⟨S, σ2, hr, rs, w⟩ => stepE hc hr rs w fun x S1 v H1 hr1 k1 rs1 r1 w => stepE hc hr1 rs1 w fun y S2 u H2 hr2 k2 rs2 r2 ⟨i, ey, w⟩ => by
    subst ey
    cases r2.1
    refine ⟨i, rfl, stepE hc hr2 rs2 w fun z S3 o H3 hr3 k3 rs3 r3 ⟨ez, w⟩ => ?_⟩
    subst ez
    cases r3.1
    obtain ⟨cn, ⟨ds, rfl, hi, x', ex, q⟩, hcn⟩ := view_of hr3 ((r1.1.keep k2 hr1).keep k3 hr2) w
    obtain ⟨a, vs, rfl, ha, rv⟩ := hcn
    cases ex
    have hl := rv.length
    refine ⟨-1, rfl, a, vs, i, rfl, SqL.of ha, rfl, rfl, by omega, fun p n => fin_vl (KVof.of ((k1.trans k2).trans k3) q) hr3 ?_ p n⟩
    have : ∀ (n : Nat) {ds : List D} {vs : List V}, RepL X.K H3 ds vs → RepL X.K H3 (ds.drop n) (vs.drop n) := by
      intro n
      induction n with
      | zero => intro ds vs h; exact h
      | succ n ih =>
        intro ds vs h
        cases ds with
        | nil => cases h; exact .nil
        | cons d ds => obtain ⟨v, vr, e, r, rr⟩ := h; subst e; exact ih rr
    exact (this _ rv).rev
end
section
variable {K : Frag} {cx : Cls2} {S S' S1 : Hs} {H H' H1 H0 : Hp} {σ2 : Sl} {σ : L2.St} {B B' : Bs}
theorem RelS.chg (r : RelS B K S H σ2 σ) {i : Nat} {x x' : Vx} {a : Addr} (e : σ2[i]? = some (some x)) (o : own x = true) (e' : σ[i]? = some (some (.ref a))) (hx : RepX K H' S' x' (.ref a)) (hl : lent x' = false)
    (h : ∀ (y : Vx) (v : V), (own y = true → v ≠ .ref a) → (lent y = true → v ≠ .ref a) → RepX K H S y v → RepX K H' S' y v) : RelS B K S' H' (σ2.set i (some x')) σ := by
  have hi := (List.getElem?_eq_some_iff.mp e).1
  obtain ⟨g1, g2, g3⟩ := r.ow i x a e o e'
  have old : ∀ {j : Nat} {y : Vx}, (σ2.set i (some x'))[j]? = some (some y) → (j = i ∧ y = x') ∨ (j ≠ i ∧ σ2[j]? = some (some y)) := fun {j y} ej => by
    by_cases z : j = i
    · subst z; rw [List.getElem?_set_self hi] at ej; cases ej; exact .inl ⟨rfl, rfl⟩
    · rw [List.getElem?_set_ne (Ne.symm z)] at ej; exact .inr ⟨z, ej⟩
  refine ⟨⟨by simp [r.rx.1], fun j y ej => ?_⟩, fun j y b ej oj ej' => ?_, fun j y b ej lj ej' => ?_⟩
  · rcases old ej with ⟨rfl, rfl⟩ | ⟨z, ej⟩
    · exact ⟨_, e', hx⟩
    · obtain ⟨v, h1, h2⟩ := r.rx.2 j y ej
      exact ⟨v, h1, h y v (fun oj ev => z (g3 j y ej oj (ev ▸ h1))) (fun lj ev => g1 (r.lt j y a ej lj (ev ▸ h1))) h2⟩
  · rcases old ej with ⟨rfl, rfl⟩ | ⟨z, ej⟩
    · rw [e'] at ej'; cases ej'
      refine ⟨g1, g2, fun k w ek ok ek' => ?_⟩
      rcases old ek with ⟨rfl, rfl⟩ | ⟨zk, ek⟩
      · rfl
      · exact g3 k w ek ok ek'
    · obtain ⟨f1, f2, f3⟩ := r.ow j y b ej oj ej'
      refine ⟨f1, f2, fun k w ek ok ek' => ?_⟩
      rcases old ek with ⟨rfl, rfl⟩ | ⟨zk, ek⟩
      · exact f3 k x e o ek'
      · exact f3 k w ek ok ek'
  · rcases old ej with ⟨rfl, rfl⟩ | ⟨z, ej⟩
    · rw [hl] at lj; cases lj
    · exact r.lt j y b ej lj ej'
theorem own_mut (hr : Rel K cx S H) (r : RelS B K S H σ2 σ) (kb : KeepB B S H) {i : Nat} {x : Vx} {a : Addr} {c' : Cn} (e : σ2[i]? = some (some x)) (o : own x = true) (e' : σ[i]? = some (some (.ref a))) (m : MOut K cx H a c' H')
    (hc : (∃ ds, c' = .l ds) ∨ ∃ kvs, c' = .k kvs) : Rel K cx S H' ∧ RelS B K S H' (σ2.set i (some c'.v)) σ ∧ KeepB B S H' := by
  obtain ⟨h', rfl, hcn, hs⟩ := m
  obtain ⟨hn, sn⟩ := r.rx.ownH e o e'
  obtain ⟨g1, g2, g3⟩ := r.ow i x a e o e'
  have t : TupS K H (upd H a h') := tupS_upd hs
  refine ⟨hr.upd0 sn t, r.chg e o e' ?_ ?_ fun y v n1 n2 ry => ?_, ⟨fun b z => ?_, fun b z => kb.hn b ?_⟩⟩
  · rcases hc with ⟨ds, rfl⟩ | ⟨kvs, rfl⟩
    · obtain ⟨p, vs, ep, h, rl⟩ := hcn; cases ep; exact ⟨a, vs, rfl, h, sn, rl⟩
    · obtain ⟨p, vs, ep, h, rl⟩ := hcn; cases ep; exact ⟨a, vs, rfl, h, sn, rl⟩
  · rcases hc with ⟨ds, rfl⟩ | ⟨kvs, rfl⟩ <;> rfl
  · cases y with
    | d d => exact RepV.keep t _ _ ry
    | vl ds => obtain ⟨b, vs, rfl, h, n, rl⟩ := ry; exact ⟨b, vs, rfl, by rw [upd_ne fun z => n1 rfl (by rw [z])]; exact h, n, rl.keep t⟩
    | bw ds => obtain ⟨b, vs, rfl, h, n, rl⟩ := ry; exact ⟨b, vs, rfl, by rw [upd_ne fun z => n2 rfl (by rw [z])]; exact h, n, rl.keep t⟩
    | vd ds => obtain ⟨b, vs, rfl, h, n, rl⟩ := ry; exact ⟨b, vs, rfl, by rw [upd_ne fun z => n1 rfl (by rw [z])]; exact h, n, rl.keep t⟩
    | bd ds => obtain ⟨b, vs, rfl, h, n, rl⟩ := ry; exact ⟨b, vs, rfl, by rw [upd_ne fun z => n2 rfl (by rw [z])]; exact h, n, rl.keep t⟩
    | fz ds =>
      obtain ⟨b, vs, rfl, h, rl⟩ := ry
      refine ⟨b, vs, rfl, ?_, rl.keep t⟩
      rcases h with ⟨ob, h, n⟩ | h
      · refine .inl ⟨ob, ?_, n⟩
        rw [upd_ne]
        · exact h
        · rintro rfl
          have := hs _ h
          cases this
      · exact .inr h
    | st ds => exact ry.elim
  · obtain ⟨f1, f2, f3⟩ := kb.st b z
    have ne : b ≠ a := fun q => g1 (q ▸ z)
    exact ⟨f1, by rw [upd_ne ne]; exact f2, by rw [upd_ne ne]; exact f3⟩
  · by_cases ne : b = a
    · subst ne; rw [upd_same] at z; cases z
    · rw [upd_ne ne] at z; exact z
theorem trk_mut (r : RelS B K S H σ2 σ) (hr : Rel K cx S H) (kb : KeepB B S H) {a : Addr} {ob o' : O} {h' : HO} (e : S a = some ob) (hs : ∀ o, H a = some o → seqish o = false) (hq : RelO K cx (upd H a h') a o') :
    Rel K cx (su S a o') (upd H a h') ∧ Keep S (su S a o') H (upd H a h') := by
  refine ⟨hr.upd1 (tupS_upd hs) hq, fun b o z n => ?_, fun b z => ?_⟩
  · have ne : b ≠ a := fun z => by subst z; rw [e] at n; cases n
    exact ⟨by rw [upd_ne ne]; exact z, by rw [su_ne ne]; exact n⟩
  · by_cases ne : b = a
    · subst ne; rw [upd_same] at z; cases z
    · rw [upd_ne ne] at z; exact z
theorem mutC_lk {m : M} {c : Cn} {xs : List Vx} {P : Cn → D → Prop} (hn : ∀ k, c ≠ .kn k) (w : mutC m c xs S P) : mutC m c xs S fun c' r => ((∃ ds, c' = .l ds) ∨ ∃ kvs, c' = .k kvs) ∧ P c' r := by
  unfold mutC at w ⊢
  split at w
  · exact ⟨w.1, .inl ⟨_, rfl⟩, w.2⟩
  · obtain ⟨y, e, q⟩ := w; exact ⟨y, e, .inl ⟨_, rfl⟩, q⟩
  · obtain ⟨y, e, q⟩ := w; exact ⟨y, e, .inl ⟨_, rfl⟩, q⟩
  · exact ⟨w.1, .inl ⟨_, rfl⟩, w.2⟩
  · exact ⟨w.1, .inl ⟨_, rfl⟩, w.2⟩
  · exact ⟨w.1, w.2.1, .inr ⟨_, rfl⟩, w.2.2⟩
  · exact (hn _ rfl).elim
  · exact ⟨w.1, w.2.1, .inl ⟨_, rfl⟩, w.2.2⟩
  · exact view_mono (fun c ⟨n, e, z, q⟩ => ⟨n, e, z, .inl ⟨_, rfl⟩, q⟩) w
  · exact ⟨.inl ⟨_, rfl⟩, w⟩
  · obtain ⟨ns, j, e1, e2, e3, q⟩ := w; exact ⟨ns, j, e1, e2, e3, .inl ⟨_, rfl⟩, q⟩
  · exact w.elim
theorem putF_rel {f : Str} {d : D} {v : V} (rv : RepV K H d v) : ∀ (fv : List (Str × V)) (ns : List Str) (k : Nat) (fs : List D), ns.Nodup → fv.map Prod.fst = ns.take fs.length → fs.length ≤ ns.length → ns[k]? = some f → k ≤ fs.length → RepL K H fs (fv.map Prod.snd) →
    (putF f v fv).map Prod.fst = ns.take (setF fs k d).length ∧ (setF fs k d).length ≤ ns.length ∧ RepL K H (setF fs k d) ((putF f v fv).map Prod.snd)
  | [], ns, k, fs, nd, hm, hl, hk, hle, r => by
    have e : fs = [] := by cases fs with | nil => rfl | cons d ds => obtain ⟨_, _, q, _⟩ := r; cases q
    subst e
    have e : k = 0 := by simpa using hle
    subst e
    cases ns with
    | nil => simp at hk
    | cons n ns =>
      simp at hk; subst hk
      exact ⟨rfl, by simp [setF], ⟨v, [], rfl, rv, rfl⟩⟩
  | (g, u) :: fr, ns, k, fs, nd, hm, hl, hk, hle, r => by
    cases fs with
    | nil => simp at hm
    | cons d0 fs =>
      obtain ⟨v0, vr, ev, r0, rr⟩ := r
      simp at ev
      obtain ⟨rfl, rfl⟩ := ev
      cases ns with
      | nil => simp at hm
      | cons n ns =>
        simp at hm
        obtain ⟨rfl, hm⟩ := hm
        cases k with
        | zero =>
          simp at hk; subst hk
          have e1 : putF g v ((g, u) :: fr) = (g, v) :: fr := by show (if g = g then _ else _) = _; rw [if_pos rfl]
          have e2 : setF (d0 :: fs) 0 d = d :: fs := by show (if 0 = (d0 :: fs).length then _ else _) = _; rw [if_neg (by simp)]; rfl
          rw [e1, e2]
          exact ⟨by simp [hm], by simpa using hl, ⟨v, _, rfl, rv, rr⟩⟩
        | succ k =>
          have hk : ns[k]? = some f := by simpa using hk
          have ne : ¬ g = f := fun z => (List.nodup_cons.mp nd).1 (z ▸ List.mem_of_getElem? hk)
          have e1 : putF f v ((g, u) :: fr) = (g, u) :: putF f v fr := by show (if g = f then _ else _) = _; rw [if_neg ne]
          have e2 : setF (d0 :: fs) (k + 1) d = d0 :: setF fs k d := by
            unfold setF
            by_cases z : k = fs.length
            · rw [if_pos z, if_pos (by simp [z])]; rfl
            · rw [if_neg z, if_neg (by simpa using z)]; rfl
          obtain ⟨h1, h2, h3⟩ := putF_rel rv fr ns k fs (List.nodup_cons.mp nd).2 hm (by simpa using hl) hk (by simpa using hle) rr
          rw [e1, e2]
          exact ⟨by simp [h1], by simpa using h2, ⟨u, _, rfl, r0, h3⟩⟩
end
section
variable {X : Cx} {T : Tbl} {c : Nat → List Vx → Hs → VK2 → Prop} {cx : Cls2} (hc : CalMono c)
include hc
theorem stepBx {K : Frag} {S S1 : Hs} {H H1 : Hp} {σ2 : Sl} {σ : L2.St} {B : Bs} {x : Vx} {v : V} {P : D → Hs → Prop} (hr : Rel K cx S H) (rs : RelS B K S H σ2 σ) (kb : KeepB B S H) (hr1 : Rel K cx S1 H1) (k1 : Keep S S1 H H1) (r : RepR K H H1 S1 x v) (w : bx x S1 P) :
    ∃ d S2, P d S2 ∧ Rel K cx S2 H1 ∧ RepV K H1 d v ∧ RelS B K S2 H1 σ2 σ ∧ KeepB B S2 H1 := by
  obtain ⟨d, S2, w, hr2, k2, r2, _⟩ := rel_box hc hr1 k1 r w
  exact ⟨d, S2, w, hr2, r2, rs.keep k2 hr, kb.keep k2⟩
theorem st_seti {o k e : R} {st : Stmt} (h : PS X st (tAsg (liftE X.K cx (wpE T c e)) (gSub (liftE X.K cx (wpE T c o)) (liftE X.K cx (wpE T c k)) (pset X.K cx)))) : PS X st (liftS X.K cx (wpS T c (.seti o k e))) :=
  psImp h fun D σ H ⟨B, S, σ2, hr, rs, kb, w⟩ => stepSE hc hr rs kb w fun y S1 v H1 hr1 k1 rs1 kb1 r1 w => by
    obtain ⟨d, S2, w, hr2, rd, rs2, kb2⟩ := stepBx hc hr rs kb hr1 k1 r1 w
    refine stepSE hc hr2 rs2 kb2 w fun x S3 xv H3 hr3 k3 rs3 kb3 r3 w => stepSE hc hr3 rs3 kb3 w fun z S4 zv H4 hr4 k4 rs4 kb4 r4 ⟨a, ob, kd, ex, ea, ez, w2⟩ => ?_
    subst ex ez
    cases r3.1
    obtain rk : RepV X.K H4 kd zv := r4.1
    have rd4 := RepV.keep (k4.tups hr3) _ _ (RepV.keep (k3.tups hr2) _ _ rd)
    have z := hr4 a ob ea
    have hcn : CnR X.K cx H4 ob.cn (.ref a) := by
      cases ob with
      | lst ds => obtain ⟨us, h, r⟩ := z; exact ⟨a, us, rfl, h, r⟩
      | dic ds => obtain ⟨us, h, r⟩ := z; exact ⟨a, us, rfl, h, r⟩
      | fdc ds y => obtain ⟨h, o, ks, e1, r⟩ := z; subst e1; exact ⟨a, ks, o, rfl, h, r⟩
      | dn ds => obtain ⟨us, h, r⟩ := z; exact ⟨a, us, rfl, h, r⟩
      | fdn ds y ks => obtain ⟨h, o, e1, r⟩ := z; subst e1; exact ⟨a, ks, o, rfl, h, r⟩
      | ins ci fs => exact ⟨a, rfl, z⟩
    refine ⟨S4, ob.cn, a, kd, d, hr4, rfl, hcn, rk, rd4, mutC_mono (fun c' r ⟨o', ho', w⟩ H' mo => ?_) w2⟩
    obtain ⟨h1, h2⟩ := mout_rel hr4 ea mo ho'
    exact w B σ H' .refl h1 (rs4.keep h2 hr4) (kb4.keep h2)
theorem st_slcset {o e : R} {st : Stmt} (h : PS X st (tAsg (liftE X.K cx (wpE T c e)) (gSlA X.K (liftE X.K cx (wpE T c o))))) : PS X st (liftS X.K cx (wpS T c (.slcset o e))) :=
  psImp h fun D σ H ⟨B, S, σ2, hr, rs, kb, w⟩ => stepSE hc hr rs kb w fun y S1 v H1 hr1 k1 rs1 kb1 r1 ⟨b, ey, w⟩ => by
    subst ey
    cases r1.1
    refine stepSE hc hr1 rs1 kb1 w fun x S2 xv H2 hr2 k2 rs2 kb2 r2 ⟨a, xs, ys, ex, ea, eb, hne, hz, q⟩ => ?_
    subst ex
    cases r2.1
    obtain ⟨us, g1, ru⟩ := hr2 a _ ea
    obtain ⟨vs, g2, rv⟩ := hr2 b _ eb
    refine ⟨a, b, us, vs, rfl, rfl, g1, g2, hne, by rw [← ru.length, ← rv.length]; exact hz, ?_⟩
    have hs : ∀ o, H2 a = some o → seqish o = false := fun o e => by rw [g1] at e; cases e; rfl
    obtain ⟨q1, q2⟩ := trk_mut (h' := .lst vs) (o' := .lst ys) rs2 hr2 kb2 ea hs ⟨vs, upd_same, rv.keep (tupS_upd hs)⟩
    exact q B σ _ .refl q1 (rs2.keep q2 hr2) (kb2.keep q2)
theorem ownC_of {x : Vx} {P : Cn → Prop} (h : ownC x P) : ∃ cn, P cn ∧ own x = true ∧ ((∃ ds, x = .vl ds ∧ cn = .l ds) ∨ ∃ kvs, x = .vd kvs ∧ cn = .k kvs) := by
  cases x <;> first | exact ⟨_, h, rfl, .inl ⟨_, rfl, rfl⟩⟩ | exact ⟨_, h, rfl, .inr ⟨_, rfl, rfl⟩⟩ | exact h.elim
theorem own_cn {K : Frag} {H : Hp} {S : Hs} {x : Vx} {v : V} {cn : Cn} (r : RepX K H S x v) (h : (∃ ds, x = .vl ds ∧ cn = .l ds) ∨ ∃ kvs, x = .vd kvs ∧ cn = .k kvs) : ∃ a, v = .ref a ∧ CnR K cx H cn (.ref a) := by
  rcases h with ⟨ds, rfl, rfl⟩ | ⟨kvs, rfl, rfl⟩
  · obtain ⟨a, vs, rfl, h, n, rl⟩ := r; exact ⟨a, rfl, a, vs, rfl, h, rl⟩
  · obtain ⟨a, vs, rfl, h, n, rl⟩ := r; exact ⟨a, rfl, a, vs, rfl, h, rl⟩
theorem st_oseti {i : Nat} {k e : R} {st : Stmt} (h : PS X st (tAsg (liftE X.K cx (wpE T c e)) (gSub (tVar i) (liftE X.K cx (wpE T c k)) (pset X.K cx)))) : PS X st (liftS X.K cx (wpS T c (.oseti i k e))) :=
  psImp h fun D σ H ⟨B, S, σ2, hr, rs, kb, w⟩ => stepSE hc hr rs kb w fun y S1 v H1 hr1 k1 rs1 kb1 r1 w => by
    obtain ⟨d, S2, w, hr2, rd, rs2, kb2⟩ := stepBx hc hr rs kb hr1 k1 r1 w
    obtain ⟨x, ex, w⟩ := w
    obtain ⟨xv, exv, rx⟩ := rs2.rx.2 i x ex
    refine ⟨xv, exv, stepSE hc hr2 rs2 kb2 w fun z S4 zv H4 hr4 k4 rs4 kb4 r4 ⟨kd, ez, w⟩ => ?_⟩
    subst ez
    have rd4 := RepV.keep (k4.tups hr2) _ _ rd
    obtain ⟨cn, w, ho, hcs⟩ := ownC_of hc w
    obtain ⟨a, rfl, hcn⟩ := own_cn (cx := cx) hc (rx.keep k4 hr2) hcs
    refine ⟨S4, cn, a, kd, d, hr4, rfl, hcn, r4.1, rd4, mutC_mono (fun c' r ⟨hlk, w⟩ H' mo => ?_) (mutC_lk (fun k e => by subst e; rcases hcs with ⟨ds, _, q⟩ | ⟨ds, _, q⟩ <;> cases q) w)⟩
    obtain ⟨h1, h2, h3⟩ := own_mut hr4 rs4 kb4 ex ho exv mo hlk
    exact w B σ H' .refl h1 h2 h3
theorem st_om {m : M} {i : Nat} {as : R} {st : Stmt} {es : List Expr} {te : TE} (ht : ∀ σ H Q, tBM X.K "list" (mOf X.K cx m) (tVar i) (liftA X.K cx (wpE T c as)) σ H Q → te σ H Q) (dst : Option Nat) (h : PS X st (match dst with
    | none => tDrop te
    | some j => tAsg te (gName j))) : PS X st (liftS X.K cx (wpS T c (.om m i as dst))) :=
  psImp h fun D σ H ⟨B, S, σ2, hr, rs, kb, ds, ex, w⟩ => by
    obtain ⟨xv, exv, rx⟩ := rs.rx.2 i _ ex
    have key : ∀ Q : VK, (∀ r H' v, (∃ (S' : Hs) (σ2' : Sl), Rel X.K cx S' H' ∧ RelS B X.K S' H' σ2' σ ∧ KeepB B S' H' ∧ RepV X.K H' r v ∧ nxS X.K cx B D.nx (dstS dst r σ2') S') → Q v H') → te σ H Q := fun Q q => by
      have rx0 := rx
      obtain ⟨a, vs, rfl, ha, na, rl⟩ := rx
      refine ht _ _ _ ⟨_, exv, .inl ⟨rfl, vs, SqL.of ha⟩, stepA hc hr rs.rx w fun xs S1 vs1 H1 hr1 k1 rs1 r1 w => ?_⟩
      obtain ⟨h1, h2⟩ := k1.kp _ _ ha na
      refine ⟨S1, .l ds, a, xs, hr1, rfl, ⟨a, vs, rfl, h1, rl.keep (k1.tups hr)⟩, r1, mutC_mono (fun c' r ⟨hlk, w⟩ H' v mo rv => ?_) (mutC_lk (fun k e => by cases e) w)⟩
      obtain ⟨h1, h2, h3⟩ := own_mut hr1 (rs.keep k1 hr) (kb.keep k1) ex rfl exv mo hlk
      exact q r H' v ⟨S1, _, h1, h2, h3, rv, w⟩
    cases dst with
    | none => exact key _ fun r H' v ⟨S', σ2', h1, h2, h3, rv, w⟩ => w B σ H' .refl h1 h2 h3
    | some j => exact key _ fun r H' v ⟨S', σ2', h1, h2, h3, rv, w⟩ => w B _ H' .refl h1 (h2.setD rv) h3
theorem st_fset {o e : R} {ci k : Nat} {f : Str} {eo ee : Expr} {pos' pos : Pos} (ok : ClsOk X.K cx ci) (hf : (cx.lay ci)[k]? = some f) (ho : PE X eo (liftE X.K cx (wpE T c o))) (he : PE X ee (liftE X.K cx (wpE T c e))) (hs : swapsWith ee (some (.Attribute eo f pos')) pos.line X.env = pure false) :
    PS X (.Assign [.Attribute eo f pos'] ee pos) (liftS X.K cx (wpS T c (.fset o ci k e))) :=
  psImp (ps_fld ho he hs) fun D σ H ⟨B, S, σ2, hr, rs, kb, w⟩ => stepSE hc hr rs kb w fun y S1 v H1 hr1 k1 rs1 kb1 r1 w => by
    obtain ⟨d, S2, w, hr2, rd, rs2, kb2⟩ := stepBx hc hr rs kb hr1 k1 r1 w
    refine stepSE hc hr2 rs2 kb2 w fun x S3 xv H3 hr3 k3 rs3 kb3 r3 ⟨a, fs, ex, ea, hle, w⟩ => ?_
    subst ex
    cases r3.1
    obtain ⟨dx, fv, h1, h2, h3, h4⟩ := hr3 a _ ea
    have rd3 := RepV.keep (k3.tups hr2) _ _ rd
    obtain ⟨g1, g2, g3⟩ := putF_rel rd3 fv _ k fs ok.nd h2 h3 hf hle h4
    have hl : fv.length < 1000 := by have := h4.length; have := ok.few; simp at *; omega
    refine ⟨a, _, dx, fv, rfl, h1, ok.cl, ok.no f (List.mem_of_getElem? hf), hl, ?_⟩
    have hs : ∀ o, H3 a = some o → seqish o = false := fun o e => by rw [h1] at e; cases e; rfl
    obtain ⟨q1, q2⟩ := trk_mut (h' := .ins (cx.adr ci) dx (putF f v fv)) (o' := .ins ci (setF fs k d)) rs3 hr3 kb3 ea hs ⟨dx, _, upd_same, g1, g2, g3.keep (tupS_upd hs)⟩
    exact w B σ _ .refl q1 (rs3.keep q2 hr3) (kb3.keep q2)
omit hc in
noncomputable def gFld (K : Frag) (ta : TE) (f : Str) : TG := fun v σ H Q => ta σ H fun x H2 => ∃ a C dx fs, x = .ref a ∧ H2 a = some (.ins C dx fs) ∧ Cls K C ∧ NoAttr K C f ∧ fs.length < 1000 ∧ Q σ (upd H2 a (.ins C dx (putF f v fs)))
omit hc in
theorem pg_fld {o : Expr} {f : Str} {pos : Pos} {ta : TE} (ho : PE X o ta) : PG X (.Attribute o f pos) (gFld X.K ta f) := by
  refine ⟨fun pins s σ H v u Q I r h => ?_⟩
  rw [assign_Attribute]
  refine wpAny_bind (wpAny_holding (thn (ho.run pins s σ H _ I h) fun ov s1 ⟨x, H1, I1, r1, a, C, dx, fs, ex, ea, c, n, l, q⟩ => ?_))
  subst ex
  obtain rfl : ov = Value.ref a := r1
  refine wpAny_bind (wpAny_standAt (wpAny_bind (wpAny_holding (setattr_ok I1 ea c n l r fun s3 I3 => ?_))))
  exact wpAny_release ⟨σ, _, I3, q⟩
theorem st_setNAN {o e : R} {i j ci k : Nat} {x y f : Str} {eo ee : Expr} {px py pa pt pos : Pos} {kt : Nat} (hcalm : X.calm = true) (ok : ClsOk X.K cx ci) (hf : (cx.lay ci)[k]? = some f) (g1 : PG X (.Name x px) (gName i)) (g2 : PG X (.Name y py) (gName j)) (ho : PE X eo (liftE X.K cx (wpE T c o))) (he : PE X ee (liftE X.K cx (wpE T c e)))
    (hs : swapsWithSole [.Tuple [.Name x px, .Attribute eo f pa, .Name y py] kt pt] ee pos.line X.env = pure false) (hw : swappedStores [.Tuple [.Name x px, .Attribute eo f pa, .Name y py] kt pt] ee X.env = pure none) :
    PS X (.Assign [.Tuple [.Name x px, .Attribute eo f pa, .Name y py] kt pt] ee pos) (liftS X.K cx (wpS T c (.setNAN i o ci k j e))) :=
  psImp (ps_asg he (pg_seq hcalm (pgs_cons g1 (pgs_cons (pg_fld ho) (pgs_cons g2 pgs_nil rfl) rfl) rfl) rfl rfl) hs hw rfl) fun D σ H ⟨B, S, σ2, hr, rs, kb, w⟩ => stepSE hc hr rs kb w fun x S1 v H1 hr1 k1 rs1 kb1 r1 w => by
    obtain ⟨cn, ⟨d0, d1, d2, e1, w⟩, hcn⟩ := view_of hr1 r1.1 w
    have key : ∀ (a : Addr) (vs : List V), v = .ref a → (SqL X.K H1 a vs ∨ SqT X.K H1 a vs) → RepL X.K H1 [d0, d1, d2] vs → gSeq X.K 3 (gCons (gName i) (gCons (gFld X.K (liftE X.K cx (wpE T c o)) f) (gCons (gName j) gNil))) v σ H1 D.nx := fun a vs ev hs r => by
      obtain ⟨v0, v1, v2, rfl, h0, h1, h2⟩ : ∃ v0 v1 v2, vs = [v0, v1, v2] ∧ RepV X.K H1 d0 v0 ∧ RepV X.K H1 d1 v1 ∧ RepV X.K H1 d2 v2 := by
        obtain ⟨v0, r0, rfl, h0, r⟩ := r
        obtain ⟨v1, r1, rfl, h1, r⟩ := r
        obtain ⟨v2, r2, rfl, h2, r⟩ := r
        cases r
        exact ⟨_, _, _, rfl, h0, h1, h2⟩
      refine ⟨a, [v0, v1, v2], ev, hs, rfl, v0, _, rfl, v1, _, rfl, stepSE hc hr1 (rs1.setD h0) kb1 w fun y S3 xv H3 hr3 k3 rs3 kb3 r3 ⟨b, fs, ex, ea, hle, w⟩ => ?_⟩
      subst ex
      cases r3.1
      obtain ⟨dx, fv, q1, q2, q3, q4⟩ := hr3 b _ ea
      have rd3 := RepV.keep (k3.tups hr1) _ _ h1
      have rv3 := RepV.keep (k3.tups hr1) _ _ h2
      obtain ⟨g1, g2, g3⟩ := putF_rel rd3 fv _ k fs ok.nd q2 q3 hf hle q4
      have hl : fv.length < 1000 := by have := q4.length; have := ok.few; simp at *; omega
      refine ⟨b, _, dx, fv, rfl, q1, ok.cl, ok.no f (List.mem_of_getElem? hf), hl, v2, [], rfl, rfl, ?_⟩
      have hs : ∀ o, H3 b = some o → seqish o = false := fun o e => by rw [q1] at e; cases e; rfl
      obtain ⟨p1, p2⟩ := trk_mut (h' := .ins (cx.adr ci) dx (putF f v1 fv)) (o' := .ins ci (setF fs k d1)) rs3 hr3 kb3 ea hs ⟨dx, _, upd_same, g1, g2, g3.keep (tupS_upd hs)⟩
      exact w B _ _ .refl p1 ((rs3.keep p2 hr3).setD (RepV.keep (p2.tups hr3) _ _ rv3)) (kb3.keep p2)
    cases cn with
    | l ds' => cases e1; obtain ⟨p, vs, ev, h, r⟩ := hcn; exact key p vs ev (.inl (SqL.of h)) r
    | f ds' => cases e1; obtain ⟨p, vs, ev, h, r⟩ := hcn; exact key p vs ev (.inl h) r
    | t ds' => cases e1; obtain ⟨p, vs, ev, h, r⟩ := hcn; exact key p vs ev (.inr h) r
    | _ => cases e1
theorem st_faug {o e : R} {ci k : Nat} {f : Str} {eo ee : Expr} {tpos pos : Pos} (ok : ClsOk X.K cx ci) (hf : (cx.lay ci)[k]? = some f) (ho : PE X eo (liftE X.K cx (wpE T c o))) (he : PE X ee (liftE X.K cx (wpE T c e))) :
    PS X (.AugAssign (.Attribute eo f tpos) .Add ee pos) (liftS X.K cx (wpS T c (.faug o ci k e))) :=
  psImp (ps_fldaug ho he in_add) fun D σ H ⟨B, S, σ2, hr, rs, kb, w⟩ => stepSE hc hr rs kb w fun x S1 xv H1 hr1 k1 rs1 kb1 r1 ⟨a, fs, i, ex, ea, ef, w⟩ => by
    subst ex
    cases r1.1
    obtain ⟨dx, fv, h1, h2, h3, h4⟩ := hr1 a _ ea
    obtain ⟨u, h5, h6⟩ := lookup_fld hc ok.nd h2 hf h4 ef
    cases h6
    refine ⟨a, _, dx, fv, _, rfl, h1, ok.cl, ok.no f (List.mem_of_getElem? hf), h5, stepSE hc hr1 rs1 kb1 w fun y S2 yv H2 hr2 k2 rs2 kb2 r2 ⟨j, fs', ey, ea', hlt, w⟩ => ?_⟩
    subst ey
    cases r2.1
    refine ⟨i, j, rfl, rfl, ?_⟩
    obtain ⟨dx', fv', g1, g2, g3, g4⟩ := hr2 a _ ea'
    obtain ⟨p1, p2, p3⟩ := putF_rel (d := .int (i + j)) (v := .int (i + j)) rfl fv' _ k fs' ok.nd g2 g3 hf (Nat.le_of_lt hlt) g4
    have hl : fv'.length < 1000 := by have := g4.length; have := ok.few; simp at *; omega
    refine ⟨dx', fv', g1, hl, ?_⟩
    have hs : ∀ o, H2 a = some o → seqish o = false := fun o e => by rw [g1] at e; cases e; rfl
    obtain ⟨q1, q2⟩ := trk_mut (h' := .ins (cx.adr ci) dx' (putF f (.int (i + j)) fv')) (o' := .ins ci (setF fs' k (.int (i + j)))) rs2 hr2 kb2 ea' hs ⟨dx', _, upd_same, p1, p2, p3.keep (tupS_upd hs)⟩
    exact w B σ _ .refl q1 (rs2.keep q2 hr2) (kb2.keep q2)
theorem st_box {i : Nat} {D : Ends} {σ : L2.St} {H : Hp} {r : R} (w : liftS X.K cx (wpS T c (.seq (.box i) r)) D σ H) : liftS X.K cx (wpS T c r) D σ H := by
  obtain ⟨B, S, σ2, hr, rs, kb, x, ex, w⟩ := w
  obtain ⟨xv, exv, rx⟩ := rs.rx.2 i _ ex
  have same : ∀ d, x = .d d → σ2.set i (some (.d d)) = σ2 := fun d e => by
    subst e
    obtain ⟨hi, e⟩ := List.getElem?_eq_some_iff.mp ex
    rw [← e]; exact List.set_getElem_self hi
  have go : ∀ (a : Addr) (o : O), own x = true → xv = .ref a → RelO X.K cx H a o → wpS T c r (σ2.set i (some (.d (.ref a)))) (su S a o) (nxS X.K cx B D.nx) (rtS X.K cx B D.rt) (nxS X.K cx B D.bk) (nxS X.K cx B D.ct) → liftS X.K cx (wpS T c r) D σ H := fun a o hx e ro w => by
    subst e
    obtain ⟨g1, g2, g3⟩ := rs.ow i x a ex hx exv
    refine ⟨B, su S a o, _, hr.box ro, rs.chg (x' := .d (.ref a)) ex hx exv (show RepV X.K H (.ref a) (.ref a) from rfl) rfl fun y v n1 n2 ry => ?_, ⟨fun b z => ?_, kb.hn⟩, w⟩
    · cases y with
      | d d => exact ry
      | vl ds => obtain ⟨b, vs, rfl, h, n, rl⟩ := ry; exact ⟨b, vs, rfl, h, by rw [su_ne fun z => n1 rfl (by rw [z])]; exact n, rl⟩
      | bw ds => obtain ⟨b, vs, rfl, h, n, rl⟩ := ry; exact ⟨b, vs, rfl, h, by rw [su_ne fun z => n2 rfl (by rw [z])]; exact n, rl⟩
      | vd ds => obtain ⟨b, vs, rfl, h, n, rl⟩ := ry; exact ⟨b, vs, rfl, h, by rw [su_ne fun z => n1 rfl (by rw [z])]; exact n, rl⟩
      | bd ds => obtain ⟨b, vs, rfl, h, n, rl⟩ := ry; exact ⟨b, vs, rfl, h, by rw [su_ne fun z => n2 rfl (by rw [z])]; exact n, rl⟩
      | fz ds =>
        obtain ⟨b, vs, rfl, h, rl⟩ := ry
        refine ⟨b, vs, rfl, ?_, rl⟩
        rcases h with ⟨ob, h, n⟩ | h
        · refine .inl ⟨ob, h, ?_⟩
          rw [su_ne]
          · exact n
          · rintro rfl
            obtain ⟨h', z, s⟩ := ro.some
            rw [h] at z; cases z; cases s
        · exact .inr h
      | st ds => exact ry.elim
    · obtain ⟨f1, f2, f3⟩ := kb.st b z
      exact ⟨by rw [su_ne fun q : b = a => g1 (by rw [← q]; exact z)]; exact f1, f2, f3⟩
  cases x with
  | d d => exact ⟨B, S, σ2, hr, rs, kb, by
    have w : wpS T c r (σ2.set i (some (.d d))) S (nxS X.K cx B D.nx) (rtS X.K cx B D.rt) (nxS X.K cx B D.bk) (nxS X.K cx B D.ct) := w
    rw [same d rfl] at w; exact w⟩
  | vl ds => obtain ⟨a, vs, rfl, h, n, rl⟩ := rx; exact go a (.lst ds) rfl rfl ⟨vs, h, rl⟩ (w a n)
  | vd ds => obtain ⟨a, vs, rfl, h, n, rl⟩ := rx; exact go a (.dic ds) rfl rfl ⟨vs, h, rl⟩ (w a n)
  | bw ds => exact w.elim
  | fz ds => exact w.elim
  | bd ds => exact w.elim
  | st ds => exact w.elim
end
structure Nm where
  fnm : Nat → Str
  mnm : Nat → Str
  gnm : Nat → Str
  cnm : Nat → Str
  lay : Nat → List Str
  isF : Nat → Bool
  isM : Nat → Bool
  isG : Nat → Bool
  isC : Nat → Bool
  isD : Nat → Bool
  isL : Nat → Bool
  isK : Nat → Bool
  knm : Nat → Str
noncomputable def glB (sc : Scope) (x : Str) : Bool := match sc.names.lookup x with
  | some .globalImplicit => true
  | _ => false
noncomputable def visB (sc : Scope) (x : Str) : Bool := match sc.names.lookup x with
  | some .local => true
  | some .cell => true
  | some .free => true
  | _ => false
noncomputable def locB (sc : Scope) (x : Str) : Bool := match sc.names.lookup x with
  | some .local => true
  | _ => false
noncomputable def celB (sc : Scope) (x : Str) : Bool := match sc.names.lookup x with
  | some .cell => true
  | _ => false
noncomputable def lcB (c : Bool) (sc : Scope) (x : Str) : Bool := locB sc x || (c && celB sc x)
noncomputable def noDbg (x : Str) : Bool := !(x == ("__debug__" : Str)) && !(x == ("__classdict__" : Str))
noncomputable def vOk (N : List Str) (sc : Scope) (i : Nat) (x : Str) : Bool := decide (N[i]? = some x) && visB sc x && noDbg x
noncomputable def gOk (sc : Scope) (x : Str) : Bool := glB sc x && noDbg x
noncomputable def notStar : Expr → Bool
  | .Starred _ _ => false
  | _ => true
noncomputable def noSup : Expr → Bool
  | .Call (.Name _ _) [] [] _ => false
  | _ => true
noncomputable def noMark : Expr → Bool
  | .Set _ _ _ => false
  | _ => true
noncomputable def plainI : Expr → Bool
  | .Slice _ _ _ _ => false
  | _ => true
noncomputable def valF : Expr → Bool
  | .UnaryOp _ _ _ => false
  | .BoolOp _ _ _ => false
  | .IfExp _ _ _ _ => false
  | .Compare _ _ _ _ => false
  | _ => true
noncomputable def isTupE : Expr → Bool
  | .Tuple _ _ _ => true
  | _ => false
noncomputable def noSet : Expr → Bool
  | .Set _ _ _ => false
  | _ => true
noncomputable def binO : O2 → Operator → Bool
  | .add, .Add => true
  | .sub, .Sub => true
  | .mul, .Mult => true
  | .fdiv, .FloorDiv => true
  | .mod, .Mod => true
  | .pow, .Pow => true
  | _, _ => false
noncomputable def cmpO : O2 → CmpOp → Bool
  | .eq, .Eq => true
  | .ne, .NotEq => true
  | .eqh, .Eq => true
  | .neh, .NotEq => true
  | .lt, .Lt => true
  | .le, .LtE => true
  | .gt, .Gt => true
  | .ge, .GtE => true
  | .is, .Is => true
  | .isnt, .IsNot => true
  | .mem, .In => true
  | .nmem, .NotIn => true
  | .memh, .In => true
  | .nmemh, .NotIn => true
  | .memr, .In => true
  | .nmemr, .NotIn => true
  | _, _ => false
noncomputable def o1N : O1 → Str
  | .len => "len"
  | .int => "int"
  | .str => "str"
  | .list => "list"
  | .tuple => "tuple"
  | .sorted => "sorted"
  | .all => "all"
  | .any => "any"
  | .dict => "dict"
  | .dictP => "dict"
  | .sortedP => "sorted"
  | .sum => "sum"
  | .sortedN => "sorted"
  | .sortedDn => "sorted"
  | .listDn => "list"
  | .listK => "list"
  | .lenDn => "len"
  | .tupleX => "tuple"
  | .maxl => "max"
  | .minl => "min"
  | _ => ""
noncomputable def o1B : O1 → Bool
  | .neg => false
  | .isi _ => false
  | _ => true
noncomputable def tyN (t : Ty) : Str := Str.ofString t.nm
noncomputable def mN : M → Str
  | .append => "append"
  | .pop => "pop"
  | .popAt => "pop"
  | .insert => "insert"
  | .extend => "extend"
  | .clear => "clear"
  | .setI => ""
  | .remove => "remove"
noncomputable def bmN : BM → Str
  | .index => "index"
  | .count => "count"
  | .join => "join"
  | .split => "split"
  | .indexT => "index"
noncomputable def mA0 : M → Bool
  | .pop => true
  | .clear => true
  | _ => false
noncomputable def mA1 : M → Bool
  | .append => true
  | .popAt => true
  | .insert => true
  | .extend => true
  | .remove => true
  | _ => false
noncomputable def noStars (es : List Expr) : Bool := es.all notStar && decide (es.length < 20)
noncomputable def tgB (N : List Str) (c : Str → Bool) (sc : Scope) : Tg → Expr → Bool
  | .nm i, .Name x _ => decide (N[i]? = some x) && lcB (c x) sc x
  | .tp is, .Tuple es _ _ => go is es
  | _, _ => false
where go : List Nat → List Expr → Bool
  | [], [] => true
  | i :: is, .Name x _ :: es => decide (N[i]? = some x) && lcB (c x) sc x && go is es
  | _, _ => false
noncomputable def ownN (N : List Str) (is : List Nat) : List (Str × Nat) := is.map fun i => (N.getD i "", i)
noncomputable def atL (pos pos' : Pos) : Bool := pos.endLine == pos'.line
section
variable (nm : Nm) (N : List Str)
mutual
noncomputable def mE : R → Bool → Scope → Expr → Bool
  | .v i, tt, sc, e => match e with
    | .Name x _ => vOk N sc i x
    | _ => false
  | .i n, tt, sc, e => match e with
    | .Constant (.int m) _ _ => decide (n = m) && !tt
    | _ => false
  | .s x, tt, sc, e => match e with
    | .Constant (.str y) _ _ => decide (y = sv x) && !tt
    | _ => false
  | .b x, tt, sc, e => match e with
    | .Constant (.bool y) _ _ => decide (x = y)
    | _ => false
  | .n, tt, sc, e => match e with
    | .Constant .none _ _ => !tt
    | _ => false
  | .g k, tt, sc, e => match e with
    | .Name x _ => decide (x = nm.gnm k) && gOk sc x && nm.isG k
    | _ => false
  | .o1 o a, tt, sc, e => match e with
    | .UnaryOp .USub x _ => decide (o = .neg) && mE a false sc x && !tt
    | .Call (.Name f _) [x] [] _ => o1B o && decide (f = o1N o) && gOk sc f && notStar x && mE a false sc x
    | .Call (.Name f _) [x, .Name t _] [] _ => match o with
      | .isi ty => decide (f = ("isinstance" : Str)) && gOk sc f && decide (t = tyN ty) && gOk sc t && notStar x && mE a false sc x
      | _ => false
    | _ => false
  | .o2 o a b, tt, sc, e => match e with
    | .BinOp l op r _ => binO o op && mE a false sc l && mE b false sc r && !tt
    | .Compare l [op] [r] _ => cmpO o op && noMark r && mE a false sc l && mE b false sc r
    | .Subscript l r _ => decide (o = .idx) && plainI r && mE a false sc l && mE b false sc r
    | .Call (.Name f _) [x, y] [] _ => ((decide (o = .min) && decide (f = ("min" : Str))) || (decide (o = .max) && decide (f = ("max" : Str)))) && gOk sc f && notStar x && notStar y && mE a false sc x && mE b false sc y
    | _ => false
  | .tup as, tt, sc, e => match e with
    | .Tuple es _ _ => mA as sc es && !tt
    | _ => false
  | .lst as, tt, sc, e => match e with
    | .List es _ => mA as sc es && !tt
    | _ => false
  | .dct, tt, sc, e => match e with
    | .Dict [] [] _ => !tt
    | _ => false
  | .dctp ps, tt, sc, e => match e with
    | .Dict keys values _ => !tt && decide (keys.length ≤ 15) && decide (1 ≤ keys.length) && mPr ps sc keys values
    | _ => false
  | .get1 o k, tt, sc, e => match e with
    | .Call (.Attribute eo f apos) [ek] [] pos => decide (f = ("get" : Str)) && noSup eo && atL apos pos && notStar ek && mE o false sc eo && mE k false sc ek
    | _ => false
  | .dpop o k, tt, sc, e => match e with
    | .Call (.Attribute eo f apos) [ek] [] pos => decide (f = ("pop" : Str)) && noSup eo && atL apos pos && notStar ek && mE o false sc eo && mE k false sc ek
    | _ => false
  | .get2 o k d, tt, sc, e => match e with
    | .Call (.Attribute eo f apos) [ek, ed] [] pos => decide (f = ("get" : Str)) && noSup eo && atL apos pos && notStar ek && notStar ed && mE o false sc eo && mE k false sc ek && mE d false sc ed
    | _ => false
  | .get2N o k d, tt, sc, e => match e with
    | .Call (.Attribute eo f apos) [ek, ed] [] pos => decide (f = ("get" : Str)) && noSup eo && atL apos pos && notStar ek && notStar ed && mE o false sc eo && mE k false sc ek && mE d false sc ed
    | _ => false
  | .kmem neg k a, tt, sc, e => match e with
    | .Compare l [op] [.Name x _] _ => (match op with | .In => !neg | .NotIn => neg | _ => false) && decide (x = nm.knm k) && gOk sc x && nm.isK k && mE a false sc l
    | _ => false
  | .kidx k a, tt, sc, e => match e with
    | .Subscript (.Name x _) r _ => plainI r && decide (x = nm.knm k) && gOk sc x && nm.isK k && mE a false sc r
    | _ => false
  | .one a, tt, sc, e => match e with
    | .BoolOp op [x] _ => mE a tt sc x
    | .BoolOp _ _ _ => false
    | _ => false
  | .and a r, tt, sc, e => match e with
    | .BoolOp .And (x :: y :: rest) p => mE a tt sc x && mE r tt sc (.BoolOp .And (y :: rest) p)
    | _ => false
  | .or a r, tt, sc, e => match e with
    | .BoolOp .Or (x :: y :: rest) p => mE a tt sc x && mE r tt sc (.BoolOp .Or (y :: rest) p)
    | _ => false
  | .not a, tt, sc, e => match e with
    | .UnaryOp .Not x _ => mE a tt sc x
    | _ => false
  | .ife k a b, tt, sc, e => match e with
    | .IfExp ek ea eb _ => mE k true sc ek && mE a false sc ea && mE b false sc eb && !tt
    | _ => false
  | .chain o o' a b k, tt, sc, e => match e with
    | .Compare l [op, op'] [m, r] _ => cmpO o op && cmpO o' op' && noMark m && noMark r && mE a false sc l && mE b false sc m && mE k false sc r
    | _ => false
  | .slc a lo hi, tt, sc, e => match e with
    | .Subscript x (.Slice l h none _) _ => !tt && mE a false sc x && (match l with
        | none => (match lo with | .n => true | _ => false)
        | some l => (match lo with | .n => false | _ => true) && mE lo false sc l) && (match h with
        | none => (match hi with | .n => true | _ => false)
        | some h => (match hi with | .n => false | _ => true) && mE hi false sc h)
    | _ => false
  | .call f as, tt, sc, e => match e with
    | .Call (.Name x _) es [] _ => decide (x = nm.fnm f) && gOk sc x && nm.isF f && noStars es && mA as sc es && (match es with | [] => (match as with | .nil => true | _ => false) | _ => true)
    | _ => false
  | .meth f o as, tt, sc, e => match e with
    | .Call (.Attribute eo m apos) es [] pos => decide (m = nm.mnm f) && nm.isM f && noSup eo && atL apos pos && noStars es && mE o false sc eo && mA as sc es && (match es with | [] => (match as with | .nil => true | _ => false) | _ => true)
    | _ => false
  | .make ci as, tt, sc, e => match e with
    | .Call (.Name x _) (e :: es) [] _ => decide (x = nm.cnm ci) && gOk sc x && nm.isC ci && noStars (e :: es) && mA as sc (e :: es) && !tt
    | _ => false
  | .maken ci as, tt, sc, e => match e with
    | .Call (.Name x _) (e :: es) [] _ => decide (x = nm.cnm ci) && gOk sc x && nm.isD ci && noStars (e :: es) && mA as sc (e :: es) && !tt
    | _ => false
  | .fld o ci k, tt, sc, e => match e with
    | .Attribute eo f _ => decide ((nm.lay ci)[k]? = some f) && nm.isL ci && noSup eo && mE o false sc eo
    | _ => false
  | .hm m o as, tt, sc, e => match e with
    | .Call (.Attribute eo f apos) es [] pos => decide (f = mN m) && noSup eo && atL apos pos && noStars es && mE o false sc eo && !tt && (match es with
      | [] => mA0 m && (match as with | .nil => true | _ => false)
      | _ => mA1 m && mA as sc es)
    | _ => false
  | .comp tg elt it tst, tt, sc, e => match e with
    | .ListComp eelt [⟨etg, eit, ifs, 0⟩] scope _ => !tt && tgB N (fun x => scope.names.lookup x == some .cell) (relS scope sc) tg etg && mI it (isTupE etg) sc eit && blkC N sc scope (ownN N tg.is) && noSet eit && mE elt false (relS scope sc) eelt && (match ifs with
      | [] => (match tst with | .b true => true | _ => false)
      | [k] => mE tst true (relS scope sc) k
      | _ => false)
    | _ => false
  | .lockE a, tt, sc, e => !tt && mE a false sc e
  | .lockEN a, tt, sc, e => !tt && mE a false sc e
  | .lend i a, tt, sc, e => valF e && mE a false sc e
  | .lockV a, tt, sc, e => !tt && mE a false sc e
  | .dctn1 k v, tt, sc, e => match e with
    | .Dict [some ek] [ev] _ => !tt && mE k false sc ek && mE v false sc ev
    | _ => false
  | .dctn, tt, sc, e => match e with
    | .Dict [] [] _ => !tt
    | _ => false
  | .stp a k, tt, sc, e => match e with
    | .Subscript x (.Slice none none (some y) _) _ => !tt && mE a false sc x && mE k false sc y
    | _ => false
  | .sIt a, tt, sc, e => match e with
    | .Call (.Name f _) [.Call (.Attribute eo g apos) [] [] cpos] [] _ => !tt && decide (f = ("sorted" : Str)) && gOk sc f && decide (g = ("items" : Str)) && noSup eo && atL apos cpos && mE a false sc eo
    | _ => false
  | .rev a, tt, sc, e => match e with
    | .Subscript eo (.Slice none none (some (.UnaryOp .USub (.Constant (.int 1) _ _) _)) _) _ => !tt && mE a false sc eo
    | _ => false
  | .lrg a, tt, sc, e => match e with
    | .Call (.Name f _) [.Call (.Name g _) [x] [] _] [] _ => !tt && decide (f = ("list" : Str)) && gOk sc f && decide (g = ("range" : Str)) && gOk sc g && notStar x && mE a false sc x
    | _ => false
  | .setop k a, tt, sc, e => match e with
    | .Call (.Name f _) [.Call (.Name g _) [x] [] _] [] _ => !tt && decide (f = (if k then ("sorted" : Str) else ("len" : Str))) && gOk sc f && decide (g = ("set" : Str)) && gOk sc g && notStar x && mE a false sc x
    | _ => false
  | .setP a, tt, sc, e => match e with
    | .Call (.Name f _) [.Call (.Name g _) [x] [] _] [] _ => !tt && decide (f = ("sorted" : Str)) && gOk sc f && decide (g = ("set" : Str)) && gOk sc g && notStar x && mE a false sc x
    | _ => false
  | .slr a h k, tt, sc, e => match e with
    | .Subscript x (.Slice none (some y) (some z) _) _ => !tt && mE a false sc x && mE h false sc y && mE k false sc z
    | _ => false
  | .slen a, tt, sc, e => match e with
    | .Call (.Name f _) [.Call (.Name g _) [x] [] _] [] _ => !tt && decide (f = ("len" : Str)) && gOk sc f && decide (g = ("set" : Str)) && gOk sc g && notStar x && mE a false sc x
    | _ => false
  | .upper a, tt, sc, e => match e with
    | .Call (.Attribute eo f apos) [] [] pos => !tt && decide (f = ("upper" : Str)) && noSup eo && atL apos pos && mE a false sc eo
    | _ => false
  | .bm1 m o a, tt, sc, e => match e with
    | .Call (.Attribute eo f apos) [x] [] pos => !tt && decide (f = bmN m) && noSup eo && atL apos pos && notStar x && mE o false sc eo && mE a false sc x
    | _ => false
  | _, _, _, _ => false
noncomputable def mA : R → Scope → List Expr → Bool
  | .nil, sc, es => match es with
    | [] => true
    | _ => false
  | .cons a r, sc, es => match es with
    | e :: es => notStar e && mE a false sc e && mA r sc es
    | _ => false
  | .consb a r, sc, es => match es with
    | e :: es => notStar e && mE a false sc e && mA r sc es
    | _ => false
  | _, _, _ => false
noncomputable def mPr : R → Scope → List (Option Expr) → List Expr → Bool
  | .nil, sc, ks, vs => match ks, vs with
    | [], [] => true
    | _, _ => false
  | .pr k v r, sc, ks, vs => match ks, vs with
    | some ek :: ks, ev :: vs => mE k false sc ek && mE v false sc ev && mPr r sc ks vs
    | _, _ => false
  | _, _, _, _ => false
noncomputable def mI : R → Bool → Scope → Expr → Bool
  | .itv i, tp, sc, e => match e with
    | .Name x _ => vOk N sc i x
    | _ => false
  | .ite a, tp, sc, e => mE a false sc e
  | .ichs a, tp, sc, e => mE a false sc e
  | .itk a, tp, sc, e => mE a false sc e
  | .itkn a, tp, sc, e => mE a false sc e
  | .itms a, tp, sc, e => match e with
    | .Call (.Attribute eo f apos) [] [] pos => tp && decide (f = ("items" : Str)) && noSup eo && atL apos pos && mE a false sc eo
    | _ => false
  | .rng a, tp, sc, e => match e with
    | .Call (.Name f _) [x] [] _ => decide (f = ("range" : Str)) && gOk sc f && notStar x && mE a false sc x
    | _ => false
  | .rng2 a b, tp, sc, e => match e with
    | .Call (.Name f _) [x, y] [] _ => decide (f = ("range" : Str)) && gOk sc f && notStar x && notStar y && mE a false sc x && mE b false sc y
    | _ => false
  | .rng3 a b s, tp, sc, e => match e with
    | .Call (.Name f _) [x, y, z] [] _ => decide (f = ("range" : Str)) && gOk sc f && notStar x && notStar y && notStar z && mE a false sc x && mE b false sc y && mE s false sc z
    | _ => false
  | .enuk a, tp, sc, e => match e with
    | .Call (.Name f _) [x] [] _ => tp && decide (f = ("enumerate" : Str)) && gOk sc f && notStar x && mE a false sc x
    | _ => false
  | .enu a, tp, sc, e => match e with
    | .Call (.Name f _) [x] [] _ => tp && decide (f = ("enumerate" : Str)) && gOk sc f && notStar x && mS a sc x
    | _ => false
  | .zip a b, tp, sc, e => match e with
    | .Call (.Name f _) [x, y] [] _ => tp && decide (f = ("zip" : Str)) && gOk sc f && notStar x && notStar y && mS a sc x && mS b sc y
    | _ => false
  | _, _, _, _ => false
noncomputable def mS : R → Scope → Expr → Bool
  | .itv i, sc, e => match e with
    | .Name x _ => vOk N sc i x
    | _ => false
  | .ite a, sc, e => mE a false sc e
  | _, _, _ => false
end
end
noncomputable def bltNames : List Str := ["len", "int", "str", "list", "tuple", "sorted", "all", "any", "min", "max", "range", "enumerate", "zip", "isinstance", "bool", "dict", "sum", "set"]
structure Okx (T : Tbl) (c : Nat → List Vx → Hs → VK2 → Prop) (cx : Cls2) (nm : Nm) (N : List Str) (X : Cx) : Prop where
  calm : X.calm = true
  hN : X.N = N
  nd : N.Nodup
  un : X.A.units + 65 < cLine
  blt : ∀ x ∈ bltNames, X.mg x = none
  lay : cx.lay = nm.lay
  wd : cx.w = X.w
  fn : ∀ f, nm.isF f = true → ∃ k fa fd ps np, FnOk X.prog X.w X.K X.mg X.base CX0 k fa fd ps (spOf X.K cx c f np) ∧ NumOk c f np ∧ Room k X.A ∧ X.mg (nm.fnm f) = some (.ref fa) ∧ PySem.W.keepIn X.K (.ref fa) = true ∧ Binds X.K fd ps []
  mt : ∀ f, nm.isM f = true → ∃ k fa fd ps np, Cls X.K (cx.adr (T.fcls f)) ∧ Meth X.K (cx.adr (T.fcls f)) (nm.mnm f) fa ∧ nm.mnm f ∉ cx.lay (T.fcls f) ∧ FnOk X.prog X.w X.K X.mg X.base CX0 k fa fd ps (spOf X.K cx c f np) ∧ NumOk c f np ∧ Room k X.A ∧ Binds X.K fd ps []
  mkc : ∀ ci, nm.isC ci = true → ∃ k fa fd ps np, Mk X.K (cx.adr ci) fa ∧ FnOk X.prog X.w X.K X.mg X.base CX0 k fa fd ps (spOf X.K cx c (T.cini ci) np) ∧ NumOk c (T.cini ci) np ∧ Room (k + 1) X.A ∧ X.mg (nm.cnm ci) = some (.ref (cx.adr ci)) ∧ Binds X.K fd ps []
  mkd : ∀ ci, nm.isD ci = true → ∃ k fa fd ps np ds, Mk X.K (cx.adr ci) fa ∧ FnOk X.prog X.w X.K X.mg X.base CX0 k fa fd ps (spOf X.K cx c (T.cini ci) np) ∧ NumOk c (T.cini ci) np ∧ Room (k + 1) X.A ∧ X.mg (nm.cnm ci) = some (.ref (cx.adr ci)) ∧ Vals [V.non] ds ∧ Binds X.K fd ps ds
  cl : ∀ ci, nm.isL ci = true → ClsOk X.K cx ci
  gl : ∀ k, nm.isG k = true → ∃ v u, X.mg (nm.gnm k) = some u ∧ RelV v u ∧ own (T.glob k) = false ∧ ∀ S H, Rel X.K cx S H → RepX X.K H S (T.glob k) v
  kd : ∀ k, nm.isK k = true → KdOk X.K X.w X.mg (nm.knm k) (T.kd k)
section
variable {T : Tbl} {c : Nat → List Vx → Hs → VK2 → Prop} {cx : Cls2} {nm : Nm} {N : List Str} {X : Cx}
theorem Okx.blk (h : Okx T c cx nm N X) (s : Shared) (H : Hp) (scope : Scope) (env : Env) (fp : List Addr) : Okx T c cx nm N (X.blk s H scope env fp) := ⟨h.calm, h.hN, h.nd, h.un, h.blt, h.lay, h.wd, h.fn, h.mt, h.mkc, h.mkd, h.cl, h.gl, h.kd⟩
theorem Okx.nox (h : Okx T c cx nm N X) : Okx T c cx nm N X.nox := ⟨h.calm, h.hN, h.nd, h.un, h.blt, h.lay, h.wd, h.fn, h.mt, h.mkc, h.mkd, h.cl, h.gl, h.kd⟩
theorem Okx.b (h : Okx T c cx nm N X) {x : Str} (m : decide (x ∈ bltNames) = true) : X.mg x = none := h.blt x (of_decide_eq_true m)
theorem gl_of {sc : Scope} (hs : X.env.scope = sc) {x : Str} (h : glB sc x = true) : Gl X x := by
  unfold glB at h
  unfold Gl Env.kindOf
  rw [hs]
  split at h
  · assumption
  · cases h
theorem vis_of {sc : Scope} (hs : X.env.scope = sc) {x : Str} (h : visB sc x = true) : Vis X.env.scope x := by
  unfold visB at h
  unfold Vis
  rw [hs]
  split at h
  · exact .inl (by assumption)
  · exact .inr (.inl (by assumption))
  · exact .inr (.inr (by assumption))
  · cases h
theorem loc_of {sc : Scope} {x : Str} (h : locB sc x = true) : sc.names.lookup x = some .local := by
  unfold locB at h
  split at h
  · assumption
  · cases h
theorem star_of {e : Expr} (h : notStar e = true) (es : List Expr) (env : Env) : starEach (e :: es) env = (false, eval e env) :: starEach es env := by
  cases e <;> first | rfl | cases h
theorem stars_of {es : List Expr} (h : noStars es = true) (env : Env) (pos : Pos) : (backTo pos (starEach es env)).any (·.1) = false ∧ (backTo pos (starEach es env)).all (fun x => !x.1) = true := by
  unfold noStars at h
  rw [Bool.and_eq_true] at h
  replace h := h.1
  induction es with
  | nil => exact ⟨rfl, rfl⟩
  | cons e es ih =>
    simp only [List.all_cons, Bool.and_eq_true] at h
    obtain ⟨i1, i2⟩ := ih h.2
    rw [star_of h.1]
    unfold backTo at i1 i2 ⊢
    simp only [List.map_cons, List.any_cons, List.all_cons]
    exact ⟨by simpa using i1, by simpa using i2⟩
theorem stars_tl {e : Expr} {es : List Expr} (h : noStars (e :: es) = true) : notStar e = true ∧ noStars es = true := by
  unfold noStars at h ⊢
  simp only [List.all_cons, Bool.and_eq_true, decide_eq_true_eq, List.length_cons] at h ⊢
  exact ⟨h.1.1, h.1.2, by omega⟩
theorem mark_of {op : CmpOp} {e : Expr} (h : noMark e = true) : behindInMarks op e = false := by
  cases e <;> first | rfl | cases h
theorem base_of {o : Expr} (h : noSup o = true) (m : Str) : attributeBase o m X.env (eval o X.env) = eval o X.env := by
  unfold attributeBase
  split
  · cases h
  · rfl
theorem plain_of {e : Expr} (h : plainI e = true) : PlainIx e := by
  intro o i
  cases e <;> first | rfl | cases h
theorem set_of {e : Expr} (h : noSet e = true) : ∀ x, foldedSetIterable e X.env x = pure x := by
  intro x
  cases e <;> first | rfl | cases h
theorem val_of {e : Expr} (h : valF e = true) : ∀ whole, isTrue e X.env whole = (do let v ← whole; standAt e.pos; holding [v] (truthy v)) := by
  intro w
  cases e <;> first | rfl | cases h
theorem meth_of {o : Expr} {m : Str} {apos pos : Pos} {es : List Expr} (h : noSup o = true) (hl : atL apos pos = true) (hs : noStars es = true) :
    eval (.Call (.Attribute o m apos) es [] pos) X.env = (do
      let ov ← eval o X.env
      standAt apos.atName
      let (f, first) ← holding [ov] (getMethod ov m (do return (← importBound o X.env).getD true))
      callWith pos f first (backTo pos (starEach es X.env)) (backToKw pos (keywordEach [] X.env))) := by
  have hf : methodCallForm (es.length + ([] : List Keyword).length) (backTo pos (starEach es X.env)) (backToKw pos (keywordEach [] X.env)) = true := by
    unfold methodCallForm
    rw [(stars_of hs X.env pos).2]
    unfold noStars at hs
    simp only [Bool.and_eq_true, decide_eq_true_eq] at hs
    show (true && true && decide (es.length + 0 + 0 < 30)) = true
    simp; omega
  show (do
    let ov ← attributeBase o m X.env (eval o X.env)
    standAt apos.atName
    methodCall o m apos pos X.env ov (es.length + ([] : List Keyword).length) (backTo pos (starEach es X.env)) (backToKw pos (keywordEach [] X.env))) = _
  rw [base_of h]
  unfold methodCall calleeOf methodCallPos
  rw [hf]
  have hl' : (apos.endLine == pos.line) = true := hl
  simp only [hl', Bool.not_true, Bool.false_or, if_true, pure_bind]
variable (hc : CalMono c)
include hc
noncomputable def OutE (T : Tbl) (c : Nat → List Vx → Hs → VK2 → Prop) (cx : Cls2) (X : Cx) (r : R) (tt : Bool) (e : Expr) : Prop :=
  (tt = false → PE X e (liftE X.K cx (wpE T c r))) ∧ (tt = true → PT X e (liftT X.K cx (wpE T c r)) ∧ ((∃ op vs p, e = .BoolOp op vs p) → PW X e (liftT X.K cx (wpE T c r))))
theorem out_val {r : R} {tt : Bool} {e : Expr} (h : PE X e (liftE X.K cx (wpE T c r))) (hv : valF e = true) : OutE T c cx X r tt e :=
  ⟨fun _ => h, fun _ => ⟨tst_val hc h (val_of hv), fun ⟨op, vs, p, e⟩ => by subst e; cases hv⟩⟩
omit hc in
theorem out_ff {r : R} {tt : Bool} {e : Expr} (h : PE X e (liftE X.K cx (wpE T c r))) (ht : (!tt) = true) : OutE T c cx X r tt e := ⟨fun _ => h, fun z => by subst z; cases ht⟩
omit hc in
theorem out_tst {r : R} {tt : Bool} {e : Expr} (h : PE X e (liftE X.K cx (wpE T c r))) (h2 : PT X e (liftT X.K cx (wpE T c r))) (hb : ∀ op vs p, e ≠ .BoolOp op vs p) : OutE T c cx X r tt e := ⟨fun _ => h, fun z => ⟨h2, fun ⟨op, vs, p, e⟩ => (hb _ _ _ e).elim⟩⟩
noncomputable def ClmE (T : Tbl) (c : Nat → List Vx → Hs → VK2 → Prop) (cx : Cls2) (nm : Nm) (N : List Str) (r : R) : Prop := ∀ X, Okx T c cx nm N X → ∀ tt sc e, X.env.scope = sc → mE nm N r tt sc e = true → OutE T c cx X r tt e
noncomputable def ClmA (T : Tbl) (c : Nat → List Vx → Hs → VK2 → Prop) (cx : Cls2) (nm : Nm) (N : List Str) (r : R) : Prop := ∀ X, Okx T c cx nm N X → ∀ sc es, X.env.scope = sc → mA nm N r sc es = true → PA X es (liftA X.K cx (wpE T c r))
noncomputable def ClmI (T : Tbl) (c : Nat → List Vx → Hs → VK2 → Prop) (cx : Cls2) (nm : Nm) (N : List Str) (r : R) : Prop := ∀ X, Okx T c cx nm N X → ∀ tp sc e, X.env.scope = sc → mI nm N r tp sc e = true → ∀ tg, (tp = true → isTupE tg = true) → PI X tg e (liftI X.K cx r (wpI T c r))
noncomputable def ClmS (T : Tbl) (c : Nat → List Vx → Hs → VK2 → Prop) (cx : Cls2) (nm : Nm) (N : List Str) (r : R) : Prop := ∀ X, Okx T c cx nm N X → ∀ sc e, X.env.scope = sc → mS nm N r sc e = true → PE X e (liftSrc X.K cx r (wpI T c r))
omit hc in
theorem dbg_of {x : Str} (h : noDbg x = true) : (x == ("__debug__" : Str)) = false ∧ (x == ("__classdict__" : Str)) = false := by
  unfold noDbg at h
  simp only [Bool.and_eq_true, Bool.not_eq_true'] at h
  exact h
omit hc in
theorem gOk_of {sc : Scope} (hs : X.env.scope = sc) {x : Str} (h : gOk sc x = true) : Gl X x ∧ (x == ("__debug__" : Str)) = false := by
  unfold gOk at h
  simp only [Bool.and_eq_true] at h
  exact ⟨gl_of hs h.1, (dbg_of h.2).1⟩
omit hc in
theorem vOk_of (h : Okx T c cx nm N X) {sc : Scope} (hs : X.env.scope = sc) {i : Nat} {x : Str} (m : vOk N sc i x = true) : X.N[i]? = some x ∧ Vis X.env.scope x ∧ (x == ("__debug__" : Str)) = false ∧ (x == ("__classdict__" : Str)) = false := by
  unfold vOk at m
  simp only [Bool.and_eq_true, decide_eq_true_eq] at m
  exact ⟨by rw [h.hN]; exact m.1.1, vis_of hs m.1.2, (dbg_of m.2).1, (dbg_of m.2).2⟩
theorem clm_v (i : Nat) : ClmE T c cx nm N (.v i) := fun X h tt sc e hs m => by
  unfold mE at m
  split at m
  · obtain ⟨h1, h2, h3, h4⟩ := vOk_of h hs m
    exact out_val hc (snd_v hc h1 h2 h3 h4) rfl
  · cases m
theorem clm_i (n : Int) : ClmE T c cx nm N (.i n) := fun X h tt sc e hs m => by
  unfold mE at m
  split at m
  · simp only [Bool.and_eq_true, decide_eq_true_eq] at m
    obtain ⟨rfl, m⟩ := m
    exact out_ff (snd_i hc) m
  · cases m
theorem clm_s (n : List Nat) : ClmE T c cx nm N (.s n) := fun X h tt sc e hs m => by
  unfold mE at m
  split at m
  · simp only [Bool.and_eq_true, decide_eq_true_eq] at m
    exact out_ff (snd_s hc m.1) m.2
  · cases m
theorem clm_b (n : Bool) : ClmE T c cx nm N (.b n) := fun X h tt sc e hs m => by
  unfold mE at m
  split at m
  · simp only [decide_eq_true_eq] at m
    subst m
    exact out_val hc (snd_b hc) rfl
  · cases m
theorem clm_n : ClmE T c cx nm N .n := fun X h tt sc e hs m => by
  unfold mE at m
  split at m
  · exact out_ff (snd_n hc) m
  · cases m
theorem clm_g (k : Nat) : ClmE T c cx nm N (.g k) := fun X h tt sc e hs m => by
  unfold mE at m
  split at m
  · simp only [Bool.and_eq_true, decide_eq_true_eq] at m
    obtain ⟨⟨rfl, m⟩, mg⟩ := m
    obtain ⟨g1, g2⟩ := gOk_of hs m
    obtain ⟨v, u, hm, rv, ho, rx⟩ := h.gl k mg
    exact out_val hc (peImp (pe_glob g1 hm rv g2) fun σ H Q ⟨S, σ2, hr, rs, y, e', q⟩ => by cases e'; exact fin q hr (rx S H hr) ho) rfl
  · cases m
omit hc in
theorem o1_call {o : O1} (hb : o1B o = true) (h : Okx T c cx nm N X) {x : Expr} {p pos : Pos} (hg : Gl X (o1N o)) (hst : notStar x = true) : ∀ t : TA, PA X [x] t → PE X (.Call (.Name (o1N o) p) [x] [] pos) (tCB (c1of X.K cx o) t) := fun t ht => by
  have e1 := star_of hst [] X.env
  cases o with
  | neg => cases hb
  | isi t => cases hb
  | len => exact pe_callB call1_len hg (h.b (by decide +kernel)) boot_len ht (he := e1) (hpl := rfl)
  | dict => exact pe_callTy call1_dict hg (h.b (by decide +kernel)) PyProof.Rows.boot_dict ht (he := e1) (hpl := rfl)
  | dictP => exact pe_callTy (call1_dictP h.calm) hg (h.b (by decide +kernel)) PyProof.Rows.boot_dict ht (he := e1) (hpl := rfl)
  | sorted => exact pe_callB (call1_sorted h.calm) hg (h.b (by decide +kernel)) boot_sorted ht (he := e1) (hpl := rfl)
  | sortedP => exact pe_callB call1_sortedP hg (h.b (by decide +kernel)) boot_sorted ht (he := e1) (hpl := rfl)
  | sortedN => exact pe_callB call1_sortedN hg (h.b (by decide +kernel)) boot_sorted ht (he := e1) (hpl := rfl)
  | sortedDn => exact pe_callB (call1_sortedDn h.calm h.wd) hg (h.b (by decide +kernel)) boot_sorted ht (he := e1) (hpl := rfl)
  | listK => exact pe_callTy (call1_listK h.calm) hg (h.b (by decide +kernel)) PyProof.Rows.boot_list ht (he := e1) (hpl := rfl)
  | listDn => exact pe_callTy (call1_listDn h.calm h.wd) hg (h.b (by decide +kernel)) PyProof.Rows.boot_list ht (he := e1) (hpl := rfl)
  | lenDn => exact pe_callB (call1_lenDn h.wd) hg (h.b (by decide +kernel)) boot_len ht (he := e1) (hpl := rfl)
  | sum => exact pe_callB (call1_sum h.calm) hg (h.b (by decide +kernel)) PyProof.Rows.boot_sum ht (he := e1) (hpl := rfl)
  | maxl => exact pe_callB (call1_max h.calm) hg (h.b (by decide +kernel)) PyProof.Rows.boot_max ht (he := e1) (hpl := rfl)
  | minl => exact pe_callB (call1_min h.calm) hg (h.b (by decide +kernel)) PyProof.Rows.boot_min ht (he := e1) (hpl := rfl)
  | all => exact pe_callB (call1_all h.calm) hg (h.b (by decide +kernel)) boot_all ht (he := e1) (hpl := rfl)
  | any => exact pe_callB (call1_any h.calm) hg (h.b (by decide +kernel)) boot_any ht (he := e1) (hpl := rfl)
  | int => exact pe_callTy call1_int hg (h.b (by decide +kernel)) PyProof.Rows.boot_int ht (he := e1) (hpl := rfl)
  | str => exact pe_callTy (call1_str (by have := h.un; omega)) hg (h.b (by decide +kernel)) PyProof.Rows.boot_str ht (he := e1) (hpl := rfl)
  | list => exact pe_callTy call1_list hg (h.b (by decide +kernel)) PyProof.Rows.boot_list ht (he := e1) (hpl := rfl)
  | tuple => exact pe_callTy call1_tuple hg (h.b (by decide +kernel)) PyProof.Rows.boot_tuple ht (he := e1) (hpl := rfl)
  | tupleX => exact pe_callTy call1_tupleX hg (h.b (by decide +kernel)) PyProof.Rows.boot_tuple ht (he := e1) (hpl := rfl)
theorem bool_one (t : Ty) : (tyN t) ∈ bltNames := by cases t <;> decide +kernel
omit hc in
theorem ty_boot (t : Ty) : bootBuiltins (tyN t) = some (.type t.nm) := by cases t <;> decide +kernel
omit hc in
theorem ty_name (t : Ty) : tyN t ≠ "__name__" := by cases t <;> decide +kernel
theorem clm_o1 (o : O1) {a : R} (ia : ClmE T c cx nm N a) : ClmE T c cx nm N (.o1 o a) := fun X h tt sc e hs m => by
  unfold mE at m
  split at m
  · simp only [Bool.and_eq_true, decide_eq_true_eq] at m
    obtain ⟨⟨rfl, m⟩, ht⟩ := m
    exact out_ff (snd_neg hc ((ia X h false sc _ hs m).1 rfl)) ht
  · simp only [Bool.and_eq_true, decide_eq_true_eq] at m
    obtain ⟨⟨⟨⟨hb, rfl⟩, hg⟩, hst⟩, m⟩ := m
    exact out_val hc (snd_call1 hc (o1_call hb h (gOk_of hs hg).1 hst) (star_of hst [] X.env) ((ia X h false sc _ hs m).1 rfl)) rfl
  · split at m
    · rename_i ty
      simp only [Bool.and_eq_true, decide_eq_true_eq] at m
      obtain ⟨⟨⟨⟨⟨rfl, hg⟩, rfl⟩, hg2⟩, hst⟩, m⟩ := m
      refine out_val hc (snd_isi hc (t := ty) (fun t ht => pe_callB (isi_ok ty) (gOk_of hs hg).1 (h.b (by decide +kernel)) PyProof.Rows.boot_isinstance ht (he := star_of hst _ X.env) (hpl := rfl)) (star_of hst _ X.env) rfl ((ia X h false sc _ hs m).1 rfl) ?_) rfl
      exact pe_bltn (gOk_of hs hg2).1 (h.blt _ (bool_one hc ty)) (ty_boot ty) rfl (ty_name ty) (gOk_of hs hg2).2
    · cases m
  · cases m
end
section
variable {T : Tbl} {c : Nat → List Vx → Hs → VK2 → Prop} {cx : Cls2} {nm : Nm} {N : List Str} {X : Cx}
variable (hc : CalMono c)
include hc
omit hc in
theorem bin_of {o : O2} {op : Operator} (h : binO o op = true) : OpR X (binaryOp op) (r2of X.K cx (op2D o)) := by
  unfold binO at h
  split at h
  · exact op2_add
  · exact op2_sub
  · exact op2_mul
  · exact op2_fdiv
  · exact op2_mod
  · exact op2_pow
  · cases h
omit hc in
theorem cmp_of (hu : X.A.units + 65 < cLine) (hw : cx.w = X.w) {o : O2} {op : CmpOp} (h : cmpO o op = true) : OpR X (compareOp op) (r2of X.K cx (op2D o)) := by
  have h1 : X.A.units + 64 < cLine := by omega
  unfold cmpO at h
  split at h
  · exact op2_eq h1
  · exact op2_ne h1
  · exact op2_eqh h1
  · exact op2_neh h1
  · exact op2_lt
  · exact op2_le
  · exact op2_gt
  · exact op2_ge
  · exact op2_is
  · exact op2_isnt
  · exact op2_mem hu hw
  · exact op2_nmem hu hw
  · exact op2_memh hu
  · exact op2_nmemh hu
  · exact op2_memr hu
  · exact op2_nmemr hu
  · cases h
theorem clm_o2 (o : O2) {a b : R} (ia : ClmE T c cx nm N a) (ib : ClmE T c cx nm N b) : ClmE T c cx nm N (.o2 o a b) := fun X h tt sc e hs m => by
  unfold mE at m
  split at m
  · simp only [Bool.and_eq_true, decide_eq_true_eq] at m
    obtain ⟨⟨⟨ho, m1⟩, m2⟩, ht⟩ := m
    exact out_ff (snd_bin hc (bin_of ho) ((ia X h false sc _ hs m1).1 rfl) ((ib X h false sc _ hs m2).1 rfl)) ht
  · simp only [Bool.and_eq_true, decide_eq_true_eq] at m
    obtain ⟨⟨⟨ho, hk⟩, m1⟩, m2⟩ := m
    have p1 := (ia X h false sc _ hs m1).1 rfl
    have p2 := (ib X h false sc _ hs m2).1 rfl
    exact out_tst (snd_cmp hc (cmp_of h.un h.wd ho) (mark_of hk) p1 p2) (tst_cmp hc (cmp_of h.un h.wd ho) (mark_of hk) p1 p2) (fun _ _ _ e => by cases e)
  · simp only [Bool.and_eq_true, decide_eq_true_eq] at m
    obtain ⟨⟨⟨rfl, hp⟩, m1⟩, m2⟩ := m
    exact out_val hc (snd_ix hc (ix_ok h.un h.wd) (plain_of hp) ((ia X h false sc _ hs m1).1 rfl) ((ib X h false sc _ hs m2).1 rfl)) rfl
  · simp only [Bool.and_eq_true, Bool.or_eq_true, decide_eq_true_eq] at m
    obtain ⟨⟨⟨⟨⟨ho, hg⟩, s1⟩, s2⟩, m1⟩, m2⟩ := m
    have p1 := (ia X h false sc _ hs m1).1 rfl
    have p2 := (ib X h false sc _ hs m2).1 rfl
    rcases ho with ⟨rfl, rfl⟩ | ⟨rfl, rfl⟩
    · exact out_val hc (snd_call2 hc (fun t ht => pe_callB (call2_min h.calm) (gOk_of hs hg).1 (h.b (by decide +kernel)) PyProof.Rows.boot_min ht (he := star_of s1 _ X.env) (hpl := by rw [star_of s2]; rfl)) (star_of s1 _ X.env) (star_of s2 [] X.env) p1 p2) rfl
    · exact out_val hc (snd_call2 hc (fun t ht => pe_callB (call2_max h.calm) (gOk_of hs hg).1 (h.b (by decide +kernel)) PyProof.Rows.boot_max ht (he := star_of s1 _ X.env) (hpl := by rw [star_of s2]; rfl)) (star_of s1 _ X.env) (star_of s2 [] X.env) p1 p2) rfl
  · cases m
theorem clm_tup {as : R} (ia : ClmA T c cx nm N as) : ClmE T c cx nm N (.tup as) := fun X h tt sc e hs m => by
  unfold mE at m
  split at m
  · simp only [Bool.and_eq_true] at m
    exact out_ff (snd_tup hc (ia X h sc _ hs m.1)) m.2
  · cases m
theorem clm_lst {as : R} (ia : ClmA T c cx nm N as) : ClmE T c cx nm N (.lst as) := fun X h tt sc e hs m => by
  unfold mE at m
  split at m
  · simp only [Bool.and_eq_true] at m
    exact out_ff (snd_lst hc (ia X h sc _ hs m.1)) m.2
  · cases m
theorem clm_dct : ClmE T c cx nm N .dct := fun X h tt sc e hs m => by
  unfold mE at m
  split at m
  · exact out_ff (snd_dct hc) m
  · cases m
theorem clm_one {a : R} (ia : ClmE T c cx nm N a) : ClmE T c cx nm N (.one a) := fun X h tt sc e hs m => by
  unfold mE at m
  split at m
  · have o := ia X h tt sc _ hs m
    refine ⟨fun z => ?_, fun z => ?_⟩
    · exact snd_one hc (o.1 z)
    · exact ⟨(tst_one hc (o.2 z).1).pt, fun _ => tst_one hc (o.2 z).1⟩
  · cases m
  · cases m
theorem clm_and {a r : R} (ia : ClmE T c cx nm N a) (ir : ClmE T c cx nm N r) : ClmE T c cx nm N (.and a r) := fun X h tt sc e hs m => by
  unfold mE at m
  split at m
  · simp only [Bool.and_eq_true] at m
    have o := ia X h tt sc _ hs m.1
    have o2 := ir X h tt sc _ hs m.2
    refine ⟨fun z => snd_and hc (o.1 z) (o2.1 z), fun z => ?_⟩
    have q := tst_and hc (o.2 z).1 ((o2.2 z).2 ⟨_, _, _, rfl⟩)
    exact ⟨q.pt, fun _ => q⟩
  · cases m
theorem clm_or {a r : R} (ia : ClmE T c cx nm N a) (ir : ClmE T c cx nm N r) : ClmE T c cx nm N (.or a r) := fun X h tt sc e hs m => by
  unfold mE at m
  split at m
  · simp only [Bool.and_eq_true] at m
    have o := ia X h tt sc _ hs m.1
    have o2 := ir X h tt sc _ hs m.2
    refine ⟨fun z => snd_or hc (o.1 z) (o2.1 z), fun z => ?_⟩
    have q := tst_or hc (o.2 z).1 ((o2.2 z).2 ⟨_, _, _, rfl⟩)
    exact ⟨q.pt, fun _ => q⟩
  · cases m
theorem clm_not {a : R} (ia : ClmE T c cx nm N a) : ClmE T c cx nm N (.not a) := fun X h tt sc e hs m => by
  unfold mE at m
  split at m
  · have o := ia X h tt sc _ hs m
    exact ⟨fun z => snd_not hc (o.1 z), fun z => ⟨tst_not hc (o.2 z).1, fun ⟨_, _, _, e⟩ => by cases e⟩⟩
  · cases m
theorem clm_ife {k a b : R} (ik : ClmE T c cx nm N k) (ia : ClmE T c cx nm N a) (ib : ClmE T c cx nm N b) : ClmE T c cx nm N (.ife k a b) := fun X h tt sc e hs m => by
  unfold mE at m
  split at m
  · simp only [Bool.and_eq_true] at m
    obtain ⟨⟨⟨m1, m2⟩, m3⟩, ht⟩ := m
    exact out_ff (snd_ife hc ((ik X h true sc _ hs m1).2 rfl).1 ((ia X h false sc _ hs m2).1 rfl) ((ib X h false sc _ hs m3).1 rfl)) ht
  · cases m
theorem clm_chain (o o' : O2) {a b k : R} (ia : ClmE T c cx nm N a) (ib : ClmE T c cx nm N b) (ik : ClmE T c cx nm N k) : ClmE T c cx nm N (.chain o o' a b k) := fun X h tt sc e hs m => by
  unfold mE at m
  split at m
  · simp only [Bool.and_eq_true] at m
    obtain ⟨⟨⟨⟨⟨⟨h1, h2⟩, n1⟩, n2⟩, m1⟩, m2⟩, m3⟩ := m
    have q := fun pos => snd_chain hc (pos := pos) (cmp_of h.un h.wd h1) (cmp_of h.un h.wd h2) ((ia X h false sc _ hs m1).1 rfl) ((ib X h false sc _ hs m2).1 rfl) ((ik X h false sc _ hs m3).1 rfl) (mark_of n1) (mark_of n2)
    exact out_tst (q _).1 (q _).2 (fun _ _ _ e => by cases e)
  · cases m
theorem part_of {lo : R} {l : Option Expr} {sc : Scope} (m : (match l with
        | none => (match lo with | .n => true | _ => false)
        | some l => (match lo with | .n => false | _ => true) && mE nm N lo false sc l) = true) : ClmE T c cx nm N lo → Okx T c cx nm N X → X.env.scope = sc → PartOk X T c cx lo l := by
  intro il h hs
  split at m
  · split at m
    · exact part_n hc
    · cases m
  · simp only [Bool.and_eq_true] at m
    refine part_e hc (fun e => ?_) ((il X h false sc _ hs m.2).1 rfl)
    subst e
    cases m.1
theorem clm_slc {a lo hi : R} (ia : ClmE T c cx nm N a) (il : ClmE T c cx nm N lo) (ih : ClmE T c cx nm N hi) : ClmE T c cx nm N (.slc a lo hi) := fun X h tt sc e hs m => by
  unfold mE at m
  split at m
  · rw [Bool.and_eq_true, Bool.and_eq_true, Bool.and_eq_true] at m
    obtain ⟨⟨⟨ht, m1⟩, m2⟩, m3⟩ := m
    exact out_ff (snd_slc hc ((ia X h false sc _ hs m1).1 rfl) (part_of hc m2 il h hs) (part_of hc m3 ih h hs)) ht
  · cases m
theorem as_nil {as : R} (m : (match as with | .nil => true | _ => false) = true) : as = .nil := by
  split at m
  · rfl
  · cases m
end
section
variable {T : Tbl} {c : Nat → List Vx → Hs → VK2 → Prop} {cx : Cls2} {nm : Nm} {N : List Str} {X : Cx}
variable (hc : CalMono c)
include hc
theorem clm_call (f : Nat) {as : R} (ia : ClmA T c cx nm N as) : ClmE T c cx nm N (.call f as) := fun X h tt sc e hs m => by
  unfold mE at m
  split at m
  · rename_i es _
    simp only [Bool.and_eq_true, decide_eq_true_eq] at m
    obtain ⟨⟨⟨⟨⟨rfl, hg⟩, hf⟩, hst⟩, m⟩, mn⟩ := m
    obtain ⟨k, fa, fd, ps, np, F, hn, hr, hm, hk, hb⟩ := h.fn f hf
    have pa := ia X h sc _ hs m
    cases es with
    | nil => exact out_val hc (snd_call0 hc F hn hr (gOk_of hs hg).1 hm hk hb pa (gOk_of hs hg).2 (as_nil hc mn)) rfl
    | cons e es => exact out_val hc (snd_call hc F hn hr (gOk_of hs hg).1 hm hk hb pa (gOk_of hs hg).2 (star_of (stars_tl hst).1 _ _) (stars_of (stars_tl hst).2 _ _).1) rfl
  · cases m
theorem clm_meth (f : Nat) {o as : R} (io : ClmE T c cx nm N o) (ia : ClmA T c cx nm N as) : ClmE T c cx nm N (.meth f o as) := fun X h tt sc e hs m => by
  unfold mE at m
  split at m
  · rename_i es _
    simp only [Bool.and_eq_true, decide_eq_true_eq] at m
    obtain ⟨⟨⟨⟨⟨⟨⟨rfl, hf⟩, hsu⟩, hl⟩, hst⟩, m1⟩, m⟩, mn⟩ := m
    obtain ⟨k, fa, fd, ps, np, hcl, hmt, hno, F, hn, hr, hb⟩ := h.mt f hf
    have pa := ia X h sc _ hs m
    have po := (io X h false sc _ hs m1).1 rfl
    cases es with
    | nil =>
      have e := as_nil hc mn
      subst e
      exact out_val hc (snd_meth0 hc rfl rfl hcl hmt hno F hn hr hb po (meth_of hsu hl hst)) rfl
    | cons e es => exact out_val hc (snd_meth hc rfl rfl hcl hmt hno F hn hr hb po pa (star_of (stars_tl hst).1 _ _) (stars_of (stars_tl hst).2 _ _).1 (meth_of hsu hl hst)) rfl
  · cases m
theorem clm_make (ci : Nat) {as : R} (ia : ClmA T c cx nm N as) : ClmE T c cx nm N (.make ci as) := fun X h tt sc e hs m => by
  unfold mE at m
  split at m
  · simp only [Bool.and_eq_true, decide_eq_true_eq] at m
    obtain ⟨⟨⟨⟨⟨rfl, hg⟩, hf⟩, hst⟩, m⟩, ht⟩ := m
    obtain ⟨k, fa, fd, ps, np, M, F, hn, hr, hm, hb⟩ := h.mkc ci hf
    exact out_ff (snd_make hc rfl rfl M F hn hr (gOk_of hs hg).1 hm hb (ia X h sc _ hs m) (gOk_of hs hg).2 (star_of (stars_tl hst).1 _ _) (stars_of (stars_tl hst).2 _ _).1) ht
  · cases m
theorem clm_maken (ci : Nat) {as : R} (ia : ClmA T c cx nm N as) : ClmE T c cx nm N (.maken ci as) := fun X h tt sc e hs m => by
  unfold mE at m
  split at m
  · simp only [Bool.and_eq_true, decide_eq_true_eq] at m
    obtain ⟨⟨⟨⟨⟨rfl, hg⟩, hf⟩, hst⟩, m⟩, ht⟩ := m
    obtain ⟨k, fa, fd, ps, np, ds, M, F, hn, hr, hm, hd, hb⟩ := h.mkd ci hf
    exact out_ff (snd_maken hc rfl rfl M F hn hr (gOk_of hs hg).1 hm hb hd (ia X h sc _ hs m) (gOk_of hs hg).2 (star_of (stars_tl hst).1 _ _) (stars_of (stars_tl hst).2 _ _).1) ht
  · cases m
theorem clm_fld {o : R} (ci k : Nat) (io : ClmE T c cx nm N o) : ClmE T c cx nm N (.fld o ci k) := fun X h tt sc e hs m => by
  unfold mE at m
  split at m
  · simp only [Bool.and_eq_true, decide_eq_true_eq] at m
    obtain ⟨⟨⟨hf, hi⟩, hsu⟩, m⟩ := m
    exact out_val hc (snd_fld hc (h.cl ci hi) (by rw [h.lay]; exact hf) ((io X h false sc _ hs m).1 rfl) (base_of hsu _)) rfl
  · cases m
end
section
variable {T : Tbl} {c : Nat → List Vx → Hs → VK2 → Prop} {cx : Cls2} {nm : Nm} {N : List Str} {X : Cx}
variable (hc : CalMono c)
include hc
omit hc in
theorem few_of {es : List Expr} (hst : noStars es = true) (pos : Pos) : ((backTo pos (starEach es X.env)).all (fun x => !x.1) && (backToKw pos (keywordEach [] X.env)).all (fun x => x.1.isSome)
      && decide (es.length + ([] : List Keyword).length + (if ([] : List Keyword).isEmpty then 0 else 1) < 30)) = true := by
  rw [(stars_of hst X.env pos).2]
  unfold noStars at hst
  simp only [Bool.and_eq_true, decide_eq_true_eq] at hst
  show (true && true && decide (es.length + 0 + 0 < 30)) = true
  simp; omega
theorem clm_hm (mm : M) {o as : R} (io : ClmE T c cx nm N o) (ia : ClmA T c cx nm N as) : ClmE T c cx nm N (.hm mm o as) := fun X h tt sc e hs m => by
  unfold mE at m
  split at m
  · rename_i es _
    simp only [Bool.and_eq_true, decide_eq_true_eq] at m
    obtain ⟨⟨⟨⟨⟨⟨rfl, hsu⟩, hl⟩, hst⟩, m1⟩, ht⟩, m⟩ := m
    have po := (io X h false sc _ hs m1).1 rfl
    refine out_ff ?_ ht
    cases es with
    | nil =>
      simp only [Bool.and_eq_true] at m
      have e := as_nil hc m.2
      subst e
      cases mm with
      | pop => exact snd_hm0 hc (fun to p => pe_bm0 PySem.F.plainAttrs_list PySem.F.slot_list_pop PySem.F.type_list_pop mut_pop p (base_of hsu _) hl) po
      | clear => exact snd_hm0 hc (fun to p => pe_bm0 PySem.F.plainAttrs_list PySem.F.slot_list_clear PySem.F.type_list_clear mut_clear p (base_of hsu _) hl) po
      | _ => cases m.1
    | cons e es =>
      simp only [Bool.and_eq_true] at m
      have pa := ia X h sc _ hs m.2
      have s1 := star_of (stars_tl hst).1 es X.env
      cases mm with
      | append => exact snd_hm hc (fun to t p q => pe_bm PySem.F.plainAttrs_list PySem.F.slot_list_append PySem.F.type_list_append mut_append p q (base_of hsu _) (few_of hst _) hl s1 (stars_of (stars_tl hst).2 _ _).1) po pa
      | popAt => exact snd_hm hc (fun to t p q => pe_bm PySem.F.plainAttrs_list PySem.F.slot_list_pop PySem.F.type_list_pop mut_popAt p q (base_of hsu _) (few_of hst _) hl s1 (stars_of (stars_tl hst).2 _ _).1) po pa
      | remove => exact snd_hm hc (fun to t p q => pe_bm PySem.F.plainAttrs_list PySem.F.slot_list_remove PySem.F.type_list_remove mut_remove p q (base_of hsu _) (few_of hst _) hl s1 (stars_of (stars_tl hst).2 _ _).1) po pa
      | insert => exact snd_hm hc (fun to t p q => pe_bm PySem.F.plainAttrs_list PySem.F.slot_list_insert PySem.F.type_list_insert mut_insert p q (base_of hsu _) (few_of hst _) hl s1 (stars_of (stars_tl hst).2 _ _).1) po pa
      | extend => exact snd_hm hc (fun to t p q => pe_bm PySem.F.plainAttrs_list PySem.F.slot_list_extend PySem.F.type_list_extend mut_extend p q (base_of hsu _) (few_of hst _) hl s1 (stars_of (stars_tl hst).2 _ _).1) po pa
      | _ => cases m.1
  · cases m
omit hc in
theorem lc_of {c : Bool} {sc : Scope} {x : Str} (hs : X.env.scope = sc) (hf : c = true → X.fn x = true) (m : lcB c sc x = true) : Loc X.env.scope x ∧ (X.fn x = true ∨ X.env.scope.names.lookup x = some .local) := by
  unfold lcB at m
  rw [Bool.or_eq_true, Bool.and_eq_true] at m
  rcases m with m | ⟨m1, m2⟩
  · have hl := loc_of m
    exact ⟨.inl (by rw [hs]; exact hl), .inr (by rw [hs]; exact hl)⟩
  · refine ⟨.inr ?_, .inl (hf m1)⟩
    rw [hs]
    unfold celB at m2
    split at m2
    · assumption
    · cases m2
omit hc in
theorem tgN_of {c : Str → Bool} (hf : ∀ x, c x = true → X.fn x = true) (hcalm : X.calm = true) (hN : X.N.Nodup) {sc : Scope} (hs : X.env.scope = sc) : ∀ (is : List Nat) (es : List Expr), tgB.go X.N c sc is es = true → PGs X es (gNames is) ∧ (assignEach es X.env).length = is.length ∧ (assignEach es X.env).findIdx? (·.1) = none
  | [], [], _ => ⟨pgs_nil, rfl, rfl⟩
  | [], e :: es, m => by cases m
  | i :: is, [], m => by cases m
  | i :: is, e :: es, m => by
    unfold tgB.go at m
    split at m
    · rename_i h1 h2; cases h1
    · rename_i i' is' x p es' h1 h2
      cases h1; cases h2
      simp only [Bool.and_eq_true, decide_eq_true_eq] at m
      obtain ⟨h1, h2, h3⟩ := tgN_of hf hcalm hN hs is _ m.2
      have hl := lc_of hs (hf x) m.1.2
      have g : PG X (.Name x p) (gName i) := pg_name hN m.1.1 hl.1 hl.2
      refine ⟨pgs_cons g h1 rfl, ?_, ?_⟩
      · show (((false, assign (.Name x p) X.env) :: assignEach _ X.env) : List (Bool × (Value → Sem Unit))).length = _
        simp [h2]
      · show (((false, assign (.Name x p) X.env) :: assignEach _ X.env) : List (Bool × (Value → Sem Unit))).findIdx? (·.1) = none
        rw [List.findIdx?_cons]
        simp [h3]
    · cases m
omit hc in
theorem tg_of {c : Str → Bool} (hf : ∀ x, c x = true → X.fn x = true) (hcalm : X.calm = true) (hN : X.N.Nodup) {sc : Scope} (hs : X.env.scope = sc) {tg : Tg} {e : Expr} (m : tgB X.N c sc tg e = true) : PG X e (tgG X.K tg) := by
  unfold tgB at m
  split at m
  · simp only [Bool.and_eq_true, decide_eq_true_eq] at m
    have hl := lc_of hs (hf _) m.2
    exact pg_name hN m.1 hl.1 hl.2
  · obtain ⟨h1, h2, h3⟩ := tgN_of hf hcalm hN hs _ _ m
    exact pg_tup hcalm h1 h2 h3
  · cases m
omit hc in
theorem ownN_snd (N : List Str) (is : List Nat) : (ownN N is).map (·.2) = is := by
  unfold ownN
  induction is with
  | nil => rfl
  | cons i is ih => simp only [List.map_cons]; rw [ih]
theorem clm_comp (tg : Tg) {elt it tst : R} (ie : ClmE T c cx nm N elt) (ii : ClmI T c cx nm N it) (it' : ClmE T c cx nm N tst) : ClmE T c cx nm N (.comp tg elt it tst) := fun X h tt sc e hs m => by
  unfold mE at m
  split at m
  · rename_i eelt etg eit ifs scope _
    rw [Bool.and_eq_true, Bool.and_eq_true, Bool.and_eq_true, Bool.and_eq_true, Bool.and_eq_true, Bool.and_eq_true] at m
    obtain ⟨⟨⟨⟨⟨⟨ht, mt⟩, mi⟩, mb⟩, mn⟩, me⟩, mf⟩ := m
    have hN := h.hN
    subst hN
    refine out_ff (snd_comp hc h.calm h.nd (ii X h (isTupE etg) sc _ hs mi etg fun z => z) (blkOk_by (by rw [hs]; exact mb)) (ownN_snd _ _) (fun s H C cl fp => ?_) (fun s H C cl fp => ?_) (fun s H C cl fp => ?_) (set_of mn)) ht
    · exact tg_of (X := X.blk s H scope (compEnvC scope cl C X.env) fp) (fun x z => z) h.calm h.nd (show relS scope X.env.scope = relS scope sc by rw [hs]) mt
    · split at mf
      · split at mf
        · exact pts_tt hc
        · cases mf
      · exact pts_one ((it' _ (h.blk s H scope (compEnvC scope cl C X.env) fp) true _ _ (show relS scope X.env.scope = relS scope sc by rw [hs]) mf).2 rfl).1
      · cases mf
    · exact (ie _ (h.blk s H scope (compEnvC scope cl C X.env) fp) false _ _ (show relS scope X.env.scope = relS scope sc by rw [hs]) me).1 rfl
  · cases m
theorem clm_nil : ClmA T c cx nm N .nil := fun X h sc es hs m => by
  unfold mA at m
  split at m
  · exact snd_nil hc
  · cases m
theorem clm_cons {a r : R} (ia : ClmE T c cx nm N a) (ir : ClmA T c cx nm N r) : ClmA T c cx nm N (.cons a r) := fun X h sc es hs m => by
  unfold mA at m
  split at m
  · simp only [Bool.and_eq_true] at m
    exact snd_cons hc ((ia X h false sc _ hs m.1.2).1 rfl) (ir X h sc _ hs m.2) (star_of m.1.1 _ _)
  · cases m
theorem clm_consb {a r : R} (ia : ClmE T c cx nm N a) (ir : ClmA T c cx nm N r) : ClmA T c cx nm N (.consb a r) := fun X h sc es hs m => by
  unfold mA at m
  split at m
  · simp only [Bool.and_eq_true] at m
    exact snd_consb hc ((ia X h false sc _ hs m.1.2).1 rfl) (ir X h sc _ hs m.2) (star_of m.1.1 _ _)
  · cases m
theorem clm_itvS (i : Nat) : ClmS T c cx nm N (.itv i) := fun X h sc e hs m => by
  unfold mS at m
  split at m
  · obtain ⟨h1, h2, h3, h4⟩ := vOk_of h hs m
    exact src_v hc h1 h2 h3 h4
  · cases m
theorem clm_iteS {a : R} (ia : ClmE T c cx nm N a) : ClmS T c cx nm N (.ite a) := fun X h sc e hs m => by
  unfold mS at m
  exact src_e hc ((ia X h false sc e hs m).1 rfl)
theorem clm_itvI (i : Nat) : ClmI T c cx nm N (.itv i) := fun X h tp sc e hs m tg ht => by
  unfold mI at m
  split at m
  · obtain ⟨h1, h2, h3, h4⟩ := vOk_of h hs m
    exact walk_src hc (src_v hc h1 h2 h3 h4)
  · cases m
theorem clm_iteI {a : R} (ia : ClmE T c cx nm N a) : ClmI T c cx nm N (.ite a) := fun X h tp sc e hs m tg ht => by
  unfold mI at m
  exact walk_src hc (src_e hc ((ia X h false sc e hs m).1 rfl))
theorem clm_ichs {a : R} (ia : ClmE T c cx nm N a) : ClmI T c cx nm N (.ichs a) := fun X h tp sc e hs m tg ht => by
  unfold mI at m
  exact walk_ichs hc ((ia X h false sc e hs m).1 rfl)
theorem clm_rng {a : R} (ia : ClmE T c cx nm N a) : ClmI T c cx nm N (.rng a) := fun X h tp sc e hs m tg ht => by
  unfold mI at m
  split at m
  · simp only [Bool.and_eq_true, decide_eq_true_eq] at m
    obtain ⟨⟨⟨rfl, hg⟩, hst⟩, m⟩ := m
    exact walk_rng hc (gOk_of hs hg).1 (h.b (by decide +kernel)) (star_of hst [] _) ((ia X h false sc _ hs m).1 rfl)
  · cases m
theorem clm_rng2 {a b : R} (ia : ClmE T c cx nm N a) (ib : ClmE T c cx nm N b) : ClmI T c cx nm N (.rng2 a b) := fun X h tp sc e hs m tg ht => by
  unfold mI at m
  split at m
  · simp only [Bool.and_eq_true, decide_eq_true_eq] at m
    obtain ⟨⟨⟨⟨⟨rfl, hg⟩, s1⟩, s2⟩, m1⟩, m2⟩ := m
    exact walk_rng2 hc (gOk_of hs hg).1 (h.b (by decide +kernel)) (by rw [star_of s1, star_of s2]; rfl) (star_of s2 [] _) ((ia X h false sc _ hs m1).1 rfl) ((ib X h false sc _ hs m2).1 rfl)
  · cases m
theorem clm_rng3 {a b s : R} (ia : ClmE T c cx nm N a) (ib : ClmE T c cx nm N b) (is : ClmE T c cx nm N s) : ClmI T c cx nm N (.rng3 a b s) := fun X h tp sc e hs m tg ht => by
  unfold mI at m
  split at m
  · simp only [Bool.and_eq_true, decide_eq_true_eq] at m
    obtain ⟨⟨⟨⟨⟨⟨⟨rfl, hg⟩, s1⟩, s2⟩, s3⟩, m1⟩, m2⟩, m3⟩ := m
    exact walk_rng3 hc (gOk_of hs hg).1 (h.b (by decide +kernel)) (star_of s1 _ _) (star_of s2 _ _) (star_of s3 [] _) (by rw [star_of s2, star_of s3]; rfl) ((ia X h false sc _ hs m1).1 rfl) ((ib X h false sc _ hs m2).1 rfl) ((is X h false sc _ hs m3).1 rfl)
  · cases m
theorem clm_enu {a : R} (ia : ClmS T c cx nm N a) : ClmI T c cx nm N (.enu a) := fun X h tp sc e hs m tg ht => by
  unfold mI at m
  split at m
  · simp only [Bool.and_eq_true, decide_eq_true_eq] at m
    obtain ⟨⟨⟨⟨hp, rfl⟩, hg⟩, hst⟩, m⟩ := m
    have ht := ht hp
    unfold isTupE at ht
    split at ht
    · exact walk_enu hc (gOk_of hs hg).1 (h.b (by decide +kernel)) (star_of hst [] _) (ia X h sc _ hs m)
    · cases ht
  · cases m
theorem clm_enuk {a : R} (ia : ClmE T c cx nm N a) : ClmI T c cx nm N (.enuk a) := fun X h tp sc e hs m tg ht => by
  unfold mI at m
  split at m
  · simp only [Bool.and_eq_true, decide_eq_true_eq] at m
    obtain ⟨⟨⟨⟨hp, rfl⟩, hg⟩, hst⟩, m⟩ := m
    have ht := ht hp
    unfold isTupE at ht
    split at ht
    · exact walk_enuk hc (gOk_of hs hg).1 (h.b (by decide +kernel)) (star_of hst [] _) ((ia X h false sc _ hs m).1 rfl)
    · cases ht
  · cases m
theorem clm_zip {a b : R} (ia : ClmS T c cx nm N a) (ib : ClmS T c cx nm N b) : ClmI T c cx nm N (.zip a b) := fun X h tp sc e hs m tg ht => by
  unfold mI at m
  split at m
  · simp only [Bool.and_eq_true, decide_eq_true_eq] at m
    obtain ⟨⟨⟨⟨⟨⟨hp, rfl⟩, hg⟩, s1⟩, s2⟩, m1⟩, m2⟩ := m
    have ht := ht hp
    unfold isTupE at ht
    split at ht
    · exact walk_zip hc (gOk_of hs hg).1 (h.b (by decide +kernel)) (star_of s1 _ _) (by rw [star_of s2]; rfl) (star_of s2 [] _) (ia X h sc _ hs m1) (ib X h sc _ hs m2)
    · cases ht
  · cases m
noncomputable def ClmP (T : Tbl) (c : Nat → List Vx → Hs → VK2 → Prop) (cx : Cls2) (nm : Nm) (N : List Str) (r : R) : Prop := ∀ X, Okx T c cx nm N X → ∀ sc ks vs, X.env.scope = sc → mPr nm N r sc ks vs = true → (∀ pos, PPs X pos ks vs (prTrs X.K cx T c r)) ∧ isPr r = true ∧ ks.all (·.isSome) = true ∧ ks.length = vs.length
theorem clm_nilP : ClmP T c cx nm N .nil := fun X h sc ks vs hs m => by
  unfold mPr at m
  split at m
  · exact ⟨fun pos => pps_nil, rfl, rfl, rfl⟩
  · cases m
theorem clm_pr {k v r : R} (ik : ClmE T c cx nm N k) (iv : ClmE T c cx nm N v) (ir : ClmP T c cx nm N r) : ClmP T c cx nm N (.pr k v r) := fun X h sc ks vs hs m => by
  unfold mPr at m
  split at m
  · simp only [Bool.and_eq_true] at m
    obtain ⟨h1, h2, h3, h4⟩ := ir X h sc _ _ hs m.2
    exact ⟨fun pos => pps_cons ((ik X h false sc _ hs m.1.1).1 rfl) ((iv X h false sc _ hs m.1.2).1 rfl) (h1 pos), h2, by simpa using h3, by simp [h4]⟩
  · cases m
theorem clm_dctp {ps : R} (ip : ClmP T c cx nm N ps) : ClmE T c cx nm N (.dctp ps) := fun X h tt sc e hs m => by
  unfold mE at m
  split at m
  · simp only [Bool.and_eq_true, decide_eq_true_eq] at m
    obtain ⟨⟨⟨ht, l1⟩, l2⟩, m⟩ := m
    obtain ⟨h1, h2, h3, h4⟩ := ip X h sc _ _ hs m
    exact out_ff (snd_dctp hc h2 (h1 _) h3 h4 (fun e => by rw [e] at l2; simp at l2) l1) ht
  · cases m
theorem clm_get1 {o k : R} (io : ClmE T c cx nm N o) (ik : ClmE T c cx nm N k) : ClmE T c cx nm N (.get1 o k) := fun X h tt sc e hs m => by
  unfold mE at m
  split at m
  · simp only [Bool.and_eq_true, decide_eq_true_eq] at m
    obtain ⟨⟨⟨⟨⟨rfl, hsu⟩, hl⟩, s1⟩, m1⟩, m2⟩ := m
    refine out_val hc (snd_get1 hc (by have := h.un; omega) ((io X h false sc _ hs m1).1 rfl) ((ik X h false sc _ hs m2).1 rfl) ⟨base_of hsu _, few_of (by unfold noStars; simp [s1]) _, hl, ?_⟩) rfl
    rw [star_of s1 [] X.env]
    rfl
  · cases m
theorem clm_dpop {o k : R} (io : ClmE T c cx nm N o) (ik : ClmE T c cx nm N k) : ClmE T c cx nm N (.dpop o k) := fun X h tt sc e hs m => by
  unfold mE at m
  split at m
  · simp only [Bool.and_eq_true, decide_eq_true_eq] at m
    obtain ⟨⟨⟨⟨⟨rfl, hsu⟩, hl⟩, s1⟩, m1⟩, m2⟩ := m
    refine out_val hc (snd_dpop hc ((io X h false sc _ hs m1).1 rfl) ((ik X h false sc _ hs m2).1 rfl) ⟨base_of hsu _, few_of (by unfold noStars; simp [s1]) _, hl, ?_⟩) rfl
    rw [star_of s1 [] X.env]
    rfl
  · cases m
theorem clm_get2 {o k d : R} (io : ClmE T c cx nm N o) (ik : ClmE T c cx nm N k) (id : ClmE T c cx nm N d) : ClmE T c cx nm N (.get2 o k d) := fun X h tt sc e hs m => by
  unfold mE at m
  split at m
  · simp only [Bool.and_eq_true, decide_eq_true_eq] at m
    obtain ⟨⟨⟨⟨⟨⟨⟨rfl, hsu⟩, hl⟩, s1⟩, s2⟩, m1⟩, m2⟩, m3⟩ := m
    refine out_val hc (snd_get2 hc (by have := h.un; omega) ((io X h false sc _ hs m1).1 rfl) ((ik X h false sc _ hs m2).1 rfl) ((id X h false sc _ hs m3).1 rfl) ⟨base_of hsu _, few_of (by unfold noStars; simp [s1, s2]) _, hl, ?_⟩) rfl
    rw [star_of s1 _ X.env, star_of s2 [] X.env]
    rfl
  · cases m
theorem clm_kmem (neg : Bool) (k : Nat) {a : R} (ia : ClmE T c cx nm N a) : ClmE T c cx nm N (.kmem neg k a) := fun X h tt sc e hs m => by
  unfold mE at m
  split at m
  · simp only [Bool.and_eq_true, decide_eq_true_eq] at m
    obtain ⟨⟨⟨⟨ho, rfl⟩, hg⟩, hk⟩, m1⟩ := m
    obtain ⟨g1, g2⟩ := gOk_of hs hg
    have p := (ia X h false sc _ hs m1).1 rfl
    exact out_tst (snd_kmem hc ho (h.kd k hk) g1 g2 p) (tst_kmem hc ho (h.kd k hk) g1 g2 p) (fun _ _ _ e => by cases e)
  · cases m
theorem clm_kidx (k : Nat) {a : R} (ia : ClmE T c cx nm N a) : ClmE T c cx nm N (.kidx k a) := fun X h tt sc e hs m => by
  unfold mE at m
  split at m
  · simp only [Bool.and_eq_true, decide_eq_true_eq] at m
    obtain ⟨⟨⟨⟨hp, rfl⟩, hg⟩, hk⟩, m1⟩ := m
    obtain ⟨g1, g2⟩ := gOk_of hs hg
    exact out_val hc (snd_kidx hc (h.kd k hk) g1 g2 (plain_of hp) ((ia X h false sc _ hs m1).1 rfl)) rfl
  · cases m
theorem clm_get2N {o k d : R} (io : ClmE T c cx nm N o) (ik : ClmE T c cx nm N k) (id : ClmE T c cx nm N d) : ClmE T c cx nm N (.get2N o k d) := fun X h tt sc e hs m => by
  unfold mE at m
  split at m
  · simp only [Bool.and_eq_true, decide_eq_true_eq] at m
    obtain ⟨⟨⟨⟨⟨⟨⟨rfl, hsu⟩, hl⟩, s1⟩, s2⟩, m1⟩, m2⟩, m3⟩ := m
    refine out_val hc (snd_get2N hc (by have := h.un; omega) h.wd ((io X h false sc _ hs m1).1 rfl) ((ik X h false sc _ hs m2).1 rfl) ((id X h false sc _ hs m3).1 rfl) ⟨base_of hsu _, few_of (by unfold noStars; simp [s1, s2]) _, hl, ?_⟩) rfl
    rw [star_of s1 _ X.env, star_of s2 [] X.env]
    rfl
  · cases m
theorem clm_itk {a : R} (ia : ClmE T c cx nm N a) : ClmI T c cx nm N (.itk a) := fun X h tp sc e hs m tg ht => by
  unfold mI at m
  exact walk_itk hc ((ia X h false sc e hs m).1 rfl)
theorem clm_itms {a : R} (ia : ClmE T c cx nm N a) : ClmI T c cx nm N (.itms a) := fun X h tp sc e hs m tg ht => by
  unfold mI at m
  split at m
  · simp only [Bool.and_eq_true, decide_eq_true_eq] at m
    obtain ⟨⟨⟨⟨hp, rfl⟩, hsu⟩, hl⟩, m⟩ := m
    have ht := ht hp
    unfold isTupE at ht
    split at ht
    · exact walk_itms hc ((ia X h false sc _ hs m).1 rfl) (base_of hsu _) hl
    · cases ht
  · cases m
theorem clm_sIt {a : R} (ia : ClmE T c cx nm N a) : ClmE T c cx nm N (.sIt a) := fun X h tt sc e hs m => by
  unfold mE at m
  split at m
  · simp only [Bool.and_eq_true, decide_eq_true_eq] at m
    obtain ⟨⟨⟨⟨⟨⟨ht, rfl⟩, hg⟩, rfl⟩, hsu⟩, hl⟩, m⟩ := m
    exact out_ff (snd_sIt hc h.calm (gOk_of hs hg).1 (h.b (by decide +kernel)) ((ia X h false sc _ hs m).1 rfl) (base_of hsu _) hl) ht
  · cases m
theorem clm_rev {a : R} (ia : ClmE T c cx nm N a) : ClmE T c cx nm N (.rev a) := fun X h tt sc e hs m => by
  unfold mE at m
  split at m
  · simp only [Bool.and_eq_true] at m
    exact out_ff (snd_rev hc ((ia X h false sc _ hs m.2).1 rfl)) m.1
  · cases m
theorem clm_lrg {a : R} (ia : ClmE T c cx nm N a) : ClmE T c cx nm N (.lrg a) := fun X h tt sc e hs m => by
  unfold mE at m
  split at m
  · simp only [Bool.and_eq_true, decide_eq_true_eq] at m
    obtain ⟨⟨⟨⟨⟨⟨ht, rfl⟩, hg⟩, rfl⟩, hg2⟩, hst⟩, m⟩ := m
    exact out_ff (snd_lrg hc h.calm (gOk_of hs hg).1 (h.b (by decide +kernel)) (gOk_of hs hg2).1 (h.b (by decide +kernel)) ((ia X h false sc _ hs m).1 rfl) (star_of hst [] _)) ht
  · cases m
theorem clm_setop (k : Bool) {a : R} (ia : ClmE T c cx nm N a) : ClmE T c cx nm N (.setop k a) := fun X h tt sc e hs m => by
  unfold mE at m
  split at m
  · simp only [Bool.and_eq_true, decide_eq_true_eq] at m
    obtain ⟨⟨⟨⟨⟨⟨ht, rfl⟩, hg⟩, rfl⟩, hg2⟩, hst⟩, m⟩ := m
    refine out_ff (snd_setop hc (fun ta pa => ?_) ((ia X h false sc _ hs m).1 rfl)) ht
    cases k with
    | true => exact pe_sortedSet h.calm (gOk_of hs hg).1 (h.b (by decide +kernel)) (gOk_of hs hg2).1 (h.b (by decide +kernel)) pa (star_of hst [] _)
    | false => exact pe_lenSetT h.calm (gOk_of hs hg).1 (h.b (by decide +kernel)) (gOk_of hs hg2).1 (h.b (by decide +kernel)) pa (star_of hst [] _)
  · cases m
theorem clm_setP {a : R} (ia : ClmE T c cx nm N a) : ClmE T c cx nm N (.setP a) := fun X h tt sc e hs m => by
  unfold mE at m
  split at m
  · simp only [Bool.and_eq_true, decide_eq_true_eq] at m
    obtain ⟨⟨⟨⟨⟨⟨ht, rfl⟩, hg⟩, rfl⟩, hg2⟩, hst⟩, m⟩ := m
    refine out_ff (snd_setP hc (fun ta pa => ?_) ((ia X h false sc _ hs m).1 rfl)) ht
    exact pe_sortedSetP h.calm (by have := h.un; omega) (gOk_of hs hg).1 (h.b (by decide +kernel)) (gOk_of hs hg2).1 (h.b (by decide +kernel)) pa (star_of hst [] _)
  · cases m
theorem clm_slr {a b k : R} (ia : ClmE T c cx nm N a) (ib : ClmE T c cx nm N b) (ik : ClmE T c cx nm N k) : ClmE T c cx nm N (.slr a b k) := fun X h tt sc e hs m => by
  unfold mE at m
  split at m
  · simp only [Bool.and_eq_true] at m
    obtain ⟨⟨⟨ht, m1⟩, m2⟩, m3⟩ := m
    exact out_ff (snd_slr hc ((ia X h false sc _ hs m1).1 rfl) ((ib X h false sc _ hs m2).1 rfl) ((ik X h false sc _ hs m3).1 rfl)) ht
  · cases m
theorem clm_slen {a : R} (ia : ClmE T c cx nm N a) : ClmE T c cx nm N (.slen a) := fun X h tt sc e hs m => by
  unfold mE at m
  split at m
  · simp only [Bool.and_eq_true, decide_eq_true_eq] at m
    obtain ⟨⟨⟨⟨⟨⟨ht, rfl⟩, hg⟩, rfl⟩, hg2⟩, hst⟩, m⟩ := m
    exact out_ff (snd_slen hc (fun ta pa => pe_lenSetL h.calm (gOk_of hs hg).1 (h.b (by decide +kernel)) (gOk_of hs hg2).1 (h.b (by decide +kernel)) pa (star_of hst [] _)) ((ia X h false sc _ hs m).1 rfl)) ht
  · cases m
theorem clm_upper {a : R} (ia : ClmE T c cx nm N a) : ClmE T c cx nm N (.upper a) := fun X h tt sc e hs m => by
  unfold mE at m
  split at m
  · simp only [Bool.and_eq_true, decide_eq_true_eq] at m
    obtain ⟨⟨⟨⟨ht, rfl⟩, hsu⟩, hl⟩, m⟩ := m
    exact out_ff (snd_upper hc (base_of hsu _) hl ((ia X h false sc _ hs m).1 rfl)) ht
  · cases m
theorem clm_bm1 (mm : BM) {o a : R} (io : ClmE T c cx nm N o) (ia : ClmE T c cx nm N a) : ClmE T c cx nm N (.bm1 mm o a) := fun X h tt sc e hs m => by
  unfold mE at m
  split at m
  · simp only [Bool.and_eq_true, decide_eq_true_eq] at m
    obtain ⟨⟨⟨⟨⟨⟨ht, rfl⟩, hsu⟩, hl⟩, s1⟩, m1⟩, m2⟩ := m
    have po := (io X h false sc _ hs m1).1 rfl
    have pa := (ia X h false sc _ hs m2).1 rfl
    have hst : ∀ x : Expr, notStar x = true → noStars [x] = true := fun x z => by unfold noStars; simp [z]
    refine out_ff ?_ ht
    cases mm with
    | index => exact snd_index hc (fun to t p q => pe_bm PySem.F.plainAttrs_list PySem.F.slot_list_index PySem.F.type_list_index mt_index p q (base_of hsu _) (few_of (hst _ s1) _) hl (star_of s1 [] _) (stars_of (stars_tl (hst _ s1)).2 _ _).1) (star_of s1 [] _) po pa
    | count => exact snd_count hc (fun to t p q => pe_bm PySem.F.plainAttrs_list PySem.F.slot_list_count PySem.F.type_list_count mt_lcount p q (base_of hsu _) (few_of (hst _ s1) _) hl (star_of s1 [] _) (stars_of (stars_tl (hst _ s1)).2 _ _).1) (star_of s1 [] _) po pa
    | indexT => exact snd_indexT hc (fun to t p q => pe_xtIdx p q (base_of hsu _) (few_of (hst _ s1) _) hl (star_of s1 [] _)) (star_of s1 [] _) po pa
    | join => exact snd_join hc (star_of s1 [] _) (base_of hsu _) hl po pa
    | split => exact snd_split hc (star_of s1 [] _) (base_of hsu _) hl po pa
  · cases m
theorem clm_lockE {a : R} (ia : ClmE T c cx nm N a) : ClmE T c cx nm N (.lockE a) := fun X h tt sc e hs m => by
  unfold mE at m
  simp only [Bool.and_eq_true] at m
  exact out_ff (snd_lockE hc ((ia X h false sc e hs m.2).1 rfl)) m.1
theorem clm_lockEN {a : R} (ia : ClmE T c cx nm N a) : ClmE T c cx nm N (.lockEN a) := fun X h tt sc e hs m => by
  unfold mE at m
  simp only [Bool.and_eq_true] at m
  exact out_ff (snd_lockEN hc ((ia X h false sc e hs m.2).1 rfl)) m.1
theorem clm_lend (i : Nat) {a : R} (ia : ClmE T c cx nm N a) : ClmE T c cx nm N (.lend i a) := fun X h tt sc e hs m => by
  unfold mE at m
  simp only [Bool.and_eq_true] at m
  exact out_val hc (snd_lend hc ((ia X h false sc e hs m.2).1 rfl)) m.1
theorem clm_dctn : ClmE T c cx nm N .dctn := fun X h tt sc e hs m => by
  unfold mE at m
  split at m
  · exact out_ff (snd_dctn hc h.wd) m
  · cases m
theorem clm_lockV {a : R} (ia : ClmE T c cx nm N a) : ClmE T c cx nm N (.lockV a) := fun X h tt sc e hs m => by
  unfold mE at m
  simp only [Bool.and_eq_true] at m
  exact out_ff (snd_lockV hc ((ia X h false sc e hs m.2).1 rfl)) m.1
theorem clm_dctn1 {k v : R} (ik : ClmE T c cx nm N k) (iv : ClmE T c cx nm N v) : ClmE T c cx nm N (.dctn1 k v) := fun X h tt sc e hs m => by
  unfold mE at m
  split at m
  · simp only [Bool.and_eq_true] at m
    obtain ⟨⟨ht, m1⟩, m2⟩ := m
    exact out_ff (snd_dctn1 hc h.wd (by have := h.un; omega) ((ik X h false sc _ hs m1).1 rfl) ((iv X h false sc _ hs m2).1 rfl)) ht
  · cases m
theorem clm_stp {a k : R} (ia : ClmE T c cx nm N a) (ik : ClmE T c cx nm N k) : ClmE T c cx nm N (.stp a k) := fun X h tt sc e hs m => by
  unfold mE at m
  split at m
  · simp only [Bool.and_eq_true] at m
    obtain ⟨⟨ht, m1⟩, m2⟩ := m
    exact out_ff (snd_stp hc ((ia X h false sc _ hs m1).1 rfl) ((ik X h false sc _ hs m2).1 rfl)) ht
  · cases m
theorem clm_itkn {a : R} (ia : ClmE T c cx nm N a) : ClmI T c cx nm N (.itkn a) := fun X h tp sc e hs m tg ht => by
  unfold mI at m
  exact walk_itkn hc ((ia X h false sc e hs m).1 rfl)
theorem clm (r : R) : ClmE T c cx nm N r ∧ ClmA T c cx nm N r ∧ ClmI T c cx nm N r ∧ ClmS T c cx nm N r ∧ ClmP T c cx nm N r := by
  have noA : ∀ {r : R}, (∀ sc es, mA nm N r sc es = false) → ClmA T c cx nm N r := fun h X _ sc es _ m => by rw [h] at m; cases m
  have noI : ∀ {r : R}, (∀ tp sc es, mI nm N r tp sc es = false) → ClmI T c cx nm N r := fun h X _ tp sc es _ m => by rw [h] at m; cases m
  have noS : ∀ {r : R}, (∀ sc es, mS nm N r sc es = false) → ClmS T c cx nm N r := fun h X _ sc es _ m => by rw [h] at m; cases m
  have noE : ∀ {r : R}, (∀ tt sc es, mE nm N r tt sc es = false) → ClmE T c cx nm N r := fun h X _ tt sc es _ m => by rw [h] at m; cases m
  have noP : ∀ {r : R}, (∀ sc ks vs, mPr nm N r sc ks vs = false) → ClmP T c cx nm N r := fun h X _ sc ks vs _ m => by rw [h] at m; cases m
  induction r with
  | v i => exact ⟨clm_v hc i, noA fun _ _ => rfl, noI fun _ _ _ => rfl, noS fun _ _ => rfl, noP fun _ _ _ => rfl⟩
  | i n => exact ⟨clm_i hc n, noA fun _ _ => rfl, noI fun _ _ _ => rfl, noS fun _ _ => rfl, noP fun _ _ _ => rfl⟩
  | s n => exact ⟨clm_s hc n, noA fun _ _ => rfl, noI fun _ _ _ => rfl, noS fun _ _ => rfl, noP fun _ _ _ => rfl⟩
  | b n => exact ⟨clm_b hc n, noA fun _ _ => rfl, noI fun _ _ _ => rfl, noS fun _ _ => rfl, noP fun _ _ _ => rfl⟩
  | n => exact ⟨clm_n hc, noA fun _ _ => rfl, noI fun _ _ _ => rfl, noS fun _ _ => rfl, noP fun _ _ _ => rfl⟩
  | g k => exact ⟨clm_g hc k, noA fun _ _ => rfl, noI fun _ _ _ => rfl, noS fun _ _ => rfl, noP fun _ _ _ => rfl⟩
  | o1 o a ia => exact ⟨clm_o1 hc o ia.1, noA fun _ _ => rfl, noI fun _ _ _ => rfl, noS fun _ _ => rfl, noP fun _ _ _ => rfl⟩
  | o2 o a b ia ib => exact ⟨clm_o2 hc o ia.1 ib.1, noA fun _ _ => rfl, noI fun _ _ _ => rfl, noS fun _ _ => rfl, noP fun _ _ _ => rfl⟩
  | nil => exact ⟨noE fun _ _ _ => rfl, clm_nil hc, noI fun _ _ _ => rfl, noS fun _ _ => rfl, clm_nilP hc⟩
  | cons a r ia ir => exact ⟨noE fun _ _ _ => rfl, clm_cons hc ia.1 ir.2.1, noI fun _ _ _ => rfl, noS fun _ _ => rfl, noP fun _ _ _ => rfl⟩
  | consb a r ia ir => exact ⟨noE fun _ _ _ => rfl, clm_consb hc ia.1 ir.2.1, noI fun _ _ _ => rfl, noS fun _ _ => rfl, noP fun _ _ _ => rfl⟩
  | tup as ia => exact ⟨clm_tup hc ia.2.1, noA fun _ _ => rfl, noI fun _ _ _ => rfl, noS fun _ _ => rfl, noP fun _ _ _ => rfl⟩
  | lst as ia => exact ⟨clm_lst hc ia.2.1, noA fun _ _ => rfl, noI fun _ _ _ => rfl, noS fun _ _ => rfl, noP fun _ _ _ => rfl⟩
  | dct => exact ⟨clm_dct hc, noA fun _ _ => rfl, noI fun _ _ _ => rfl, noS fun _ _ => rfl, noP fun _ _ _ => rfl⟩
  | dctp ps ip => exact ⟨clm_dctp hc ip.2.2.2.2, noA fun _ _ => rfl, noI fun _ _ _ => rfl, noS fun _ _ => rfl, noP fun _ _ _ => rfl⟩
  | pr k v r ik iv ir => exact ⟨noE fun _ _ _ => rfl, noA fun _ _ => rfl, noI fun _ _ _ => rfl, noS fun _ _ => rfl, clm_pr hc ik.1 iv.1 ir.2.2.2.2⟩
  | get1 o k io ik => exact ⟨clm_get1 hc io.1 ik.1, noA fun _ _ => rfl, noI fun _ _ _ => rfl, noS fun _ _ => rfl, noP fun _ _ _ => rfl⟩
  | dpop o k io ik => exact ⟨clm_dpop hc io.1 ik.1, noA fun _ _ => rfl, noI fun _ _ _ => rfl, noS fun _ _ => rfl, noP fun _ _ _ => rfl⟩
  | get2 o k d io ik id => exact ⟨clm_get2 hc io.1 ik.1 id.1, noA fun _ _ => rfl, noI fun _ _ _ => rfl, noS fun _ _ => rfl, noP fun _ _ _ => rfl⟩
  | and a r ia ir => exact ⟨clm_and hc ia.1 ir.1, noA fun _ _ => rfl, noI fun _ _ _ => rfl, noS fun _ _ => rfl, noP fun _ _ _ => rfl⟩
  | or a r ia ir => exact ⟨clm_or hc ia.1 ir.1, noA fun _ _ => rfl, noI fun _ _ _ => rfl, noS fun _ _ => rfl, noP fun _ _ _ => rfl⟩
  | kmem neg k a ia => exact ⟨clm_kmem hc neg k ia.1, noA fun _ _ => rfl, noI fun _ _ _ => rfl, noS fun _ _ => rfl, noP fun _ _ _ => rfl⟩
  | kidx k a ia => exact ⟨clm_kidx hc k ia.1, noA fun _ _ => rfl, noI fun _ _ _ => rfl, noS fun _ _ => rfl, noP fun _ _ _ => rfl⟩
  | get2N o k d io ik id => exact ⟨clm_get2N hc io.1 ik.1 id.1, noA fun _ _ => rfl, noI fun _ _ _ => rfl, noS fun _ _ => rfl, noP fun _ _ _ => rfl⟩
  | one a ia => exact ⟨clm_one hc ia.1, noA fun _ _ => rfl, noI fun _ _ _ => rfl, noS fun _ _ => rfl, noP fun _ _ _ => rfl⟩
  | not a ia => exact ⟨clm_not hc ia.1, noA fun _ _ => rfl, noI fun _ _ _ => rfl, noS fun _ _ => rfl, noP fun _ _ _ => rfl⟩
  | ife k a b ik ia ib => exact ⟨clm_ife hc ik.1 ia.1 ib.1, noA fun _ _ => rfl, noI fun _ _ _ => rfl, noS fun _ _ => rfl, noP fun _ _ _ => rfl⟩
  | chain o o' a b k ia ib ik => exact ⟨clm_chain hc o o' ia.1 ib.1 ik.1, noA fun _ _ => rfl, noI fun _ _ _ => rfl, noS fun _ _ => rfl, noP fun _ _ _ => rfl⟩
  | slc a lo hi ia il ih => exact ⟨clm_slc hc ia.1 il.1 ih.1, noA fun _ _ => rfl, noI fun _ _ _ => rfl, noS fun _ _ => rfl, noP fun _ _ _ => rfl⟩
  | call f as ia => exact ⟨clm_call hc f ia.2.1, noA fun _ _ => rfl, noI fun _ _ _ => rfl, noS fun _ _ => rfl, noP fun _ _ _ => rfl⟩
  | meth f o as io ia => exact ⟨clm_meth hc f io.1 ia.2.1, noA fun _ _ => rfl, noI fun _ _ _ => rfl, noS fun _ _ => rfl, noP fun _ _ _ => rfl⟩
  | make ci as ia => exact ⟨clm_make hc ci ia.2.1, noA fun _ _ => rfl, noI fun _ _ _ => rfl, noS fun _ _ => rfl, noP fun _ _ _ => rfl⟩
  | maken ci as ia => exact ⟨clm_maken hc ci ia.2.1, noA fun _ _ => rfl, noI fun _ _ _ => rfl, noS fun _ _ => rfl, noP fun _ _ _ => rfl⟩
  | fld o ci k io => exact ⟨clm_fld hc ci k io.1, noA fun _ _ => rfl, noI fun _ _ _ => rfl, noS fun _ _ => rfl, noP fun _ _ _ => rfl⟩
  | hm m o as io ia => exact ⟨clm_hm hc m io.1 ia.2.1, noA fun _ _ => rfl, noI fun _ _ _ => rfl, noS fun _ _ => rfl, noP fun _ _ _ => rfl⟩
  | comp tg elt it tst ie ii it' => exact ⟨clm_comp hc tg ie.1 ii.2.2.1 it'.1, noA fun _ _ => rfl, noI fun _ _ _ => rfl, noS fun _ _ => rfl, noP fun _ _ _ => rfl⟩
  | itv i => exact ⟨noE fun _ _ _ => rfl, noA fun _ _ => rfl, clm_itvI hc i, clm_itvS hc i, noP fun _ _ _ => rfl⟩
  | ite a ia => exact ⟨noE fun _ _ _ => rfl, noA fun _ _ => rfl, clm_iteI hc ia.1, clm_iteS hc ia.1, noP fun _ _ _ => rfl⟩
  | itk a ia => exact ⟨noE fun _ _ _ => rfl, noA fun _ _ => rfl, clm_itk hc ia.1, noS fun _ _ => rfl, noP fun _ _ _ => rfl⟩
  | itms a ia => exact ⟨noE fun _ _ _ => rfl, noA fun _ _ => rfl, clm_itms hc ia.1, noS fun _ _ => rfl, noP fun _ _ _ => rfl⟩
  | sIt a ia => exact ⟨clm_sIt hc ia.1, noA fun _ _ => rfl, noI fun _ _ _ => rfl, noS fun _ _ => rfl, noP fun _ _ _ => rfl⟩
  | rev a ia => exact ⟨clm_rev hc ia.1, noA fun _ _ => rfl, noI fun _ _ _ => rfl, noS fun _ _ => rfl, noP fun _ _ _ => rfl⟩
  | lrg a ia => exact ⟨clm_lrg hc ia.1, noA fun _ _ => rfl, noI fun _ _ _ => rfl, noS fun _ _ => rfl, noP fun _ _ _ => rfl⟩
  | setop k a ia => exact ⟨clm_setop hc k ia.1, noA fun _ _ => rfl, noI fun _ _ _ => rfl, noS fun _ _ => rfl, noP fun _ _ _ => rfl⟩
  | setP a ia => exact ⟨clm_setP hc ia.1, noA fun _ _ => rfl, noI fun _ _ _ => rfl, noS fun _ _ => rfl, noP fun _ _ _ => rfl⟩
  | slr a b k ia ib ik => exact ⟨clm_slr hc ia.1 ib.1 ik.1, noA fun _ _ => rfl, noI fun _ _ _ => rfl, noS fun _ _ => rfl, noP fun _ _ _ => rfl⟩
  | slen a ia => exact ⟨clm_slen hc ia.1, noA fun _ _ => rfl, noI fun _ _ _ => rfl, noS fun _ _ => rfl, noP fun _ _ _ => rfl⟩
  | upper a ia => exact ⟨clm_upper hc ia.1, noA fun _ _ => rfl, noI fun _ _ _ => rfl, noS fun _ _ => rfl, noP fun _ _ _ => rfl⟩
  | bm1 m o a io ia => exact ⟨clm_bm1 hc m io.1 ia.1, noA fun _ _ => rfl, noI fun _ _ _ => rfl, noS fun _ _ => rfl, noP fun _ _ _ => rfl⟩
  | lockE a ia => exact ⟨clm_lockE hc ia.1, noA fun _ _ => rfl, noI fun _ _ _ => rfl, noS fun _ _ => rfl, noP fun _ _ _ => rfl⟩
  | lockEN a ia => exact ⟨clm_lockEN hc ia.1, noA fun _ _ => rfl, noI fun _ _ _ => rfl, noS fun _ _ => rfl, noP fun _ _ _ => rfl⟩
  | lend i a ia => exact ⟨clm_lend hc i ia.1, noA fun _ _ => rfl, noI fun _ _ _ => rfl, noS fun _ _ => rfl, noP fun _ _ _ => rfl⟩
  | dctn1 k v ik iv => exact ⟨clm_dctn1 hc ik.1 iv.1, noA fun _ _ => rfl, noI fun _ _ _ => rfl, noS fun _ _ => rfl, noP fun _ _ _ => rfl⟩
  | lockV a ia => exact ⟨clm_lockV hc ia.1, noA fun _ _ => rfl, noI fun _ _ _ => rfl, noS fun _ _ => rfl, noP fun _ _ _ => rfl⟩
  | dctn => exact ⟨clm_dctn hc, noA fun _ _ => rfl, noI fun _ _ _ => rfl, noS fun _ _ => rfl, noP fun _ _ _ => rfl⟩
  | stp a k ia ik => exact ⟨clm_stp hc ia.1 ik.1, noA fun _ _ => rfl, noI fun _ _ _ => rfl, noS fun _ _ => rfl, noP fun _ _ _ => rfl⟩
  | enuk a ia => exact ⟨noE fun _ _ _ => rfl, noA fun _ _ => rfl, clm_enuk hc ia.1, noS fun _ _ => rfl, noP fun _ _ _ => rfl⟩
  | itkn a ia => exact ⟨noE fun _ _ _ => rfl, noA fun _ _ => rfl, clm_itkn hc ia.1, noS fun _ _ => rfl, noP fun _ _ _ => rfl⟩
  | ichs a ia => exact ⟨noE fun _ _ _ => rfl, noA fun _ _ => rfl, clm_ichs hc ia.1, noS fun _ _ => rfl, noP fun _ _ _ => rfl⟩
  | rng a ia => exact ⟨noE fun _ _ _ => rfl, noA fun _ _ => rfl, clm_rng hc ia.1, noS fun _ _ => rfl, noP fun _ _ _ => rfl⟩
  | rng3 a b s ia ib is => exact ⟨noE fun _ _ _ => rfl, noA fun _ _ => rfl, clm_rng3 hc ia.1 ib.1 is.1, noS fun _ _ => rfl, noP fun _ _ _ => rfl⟩
  | rng2 a b ia ib => exact ⟨noE fun _ _ _ => rfl, noA fun _ _ => rfl, clm_rng2 hc ia.1 ib.1, noS fun _ _ => rfl, noP fun _ _ _ => rfl⟩
  | enu a ia => exact ⟨noE fun _ _ _ => rfl, noA fun _ _ => rfl, clm_enu hc ia.2.2.2.1, noS fun _ _ => rfl, noP fun _ _ _ => rfl⟩
  | zip a b ia ib => exact ⟨noE fun _ _ _ => rfl, noA fun _ _ => rfl, clm_zip hc ia.2.2.2.1 ib.2.2.2.1, noS fun _ _ => rfl, noP fun _ _ _ => rfl⟩
  | _ => exact ⟨noE fun _ _ _ => rfl, noA fun _ _ => rfl, noI fun _ _ _ => rfl, noS fun _ _ => rfl, noP fun _ _ _ => rfl⟩
end
noncomputable def oneSt : Stmt ⊕ List Stmt → Option Stmt
  | .inl s => some s
  | .inr [s] => some s
  | _ => none
noncomputable def noComp : Expr → Bool
  | .ListComp _ _ _ _ => false
  | .SetComp _ _ _ _ => false
  | .DictComp _ _ _ _ _ => false
  | _ => true
noncomputable def cmpSet (sc : Scope) (y : Str) (py : Pos) : Expr → Bool
  | .ListComp _ _ s pos => (py.line == pos.line) && !(s.names.any fun (n, k) => n == y && (k == .local || k == .cell))
  | _ => false
noncomputable def isCmpR : R → Bool
  | .comp _ _ _ _ => true
  | _ => false
section
variable (nm : Nm) (N : List Str)
noncomputable def mB : R → Scope → (Stmt ⊕ List Stmt) → Bool
  | .seq a r, sc, ob => match ob with
    | .inr sts => match a with
      | .box _ => mB r sc (.inr sts)
      | _ => match sts with
        | st :: rest => mB a sc (.inl st) && mB r sc (.inr rest)
        | [] => false
    | _ => false
  | .skip, sc, ob => match ob with
    | .inr [] => true
    | .inl (.Pass _) => true
    | .inr [.Pass _] => true
    | _ => false
  | .expr e, sc, ob => match oneSt ob with
    | some (.Expr ee _) => noComp ee && mE nm N e false sc ee
    | _ => false
  | .set i e, sc, ob => match oneSt ob with
    | some (.Assign [.Name x py] ee _) => decide (N[i]? = some x) && lcB true sc x && mE nm N e false sc ee && ((noComp ee || celB sc x) || (locB sc x && cmpSet sc x py ee && (match sc.kind with | .function => true | _ => false) && isCmpR e))
    | _ => false
  | .setT is e, sc, ob => match oneSt ob with
    | some (.Assign [.Tuple es k p] ee _) => !(isTupE ee) && tgB.go N (fun _ => true) sc is es && mE nm N e false sc ee
    | _ => false
  | .seti o k e, sc, ob => match oneSt ob with
    | some (.Assign [.Subscript eo ek _] ee _) => plainI ek && mE nm N o false sc eo && mE nm N k false sc ek && mE nm N e false sc ee
    | _ => false
  | .slcset o e, sc, ob => match oneSt ob with
    | some (.Assign [.Subscript eo (.Slice none none none _) _] ee _) => mE nm N o false sc eo && mE nm N e false sc ee
    | _ => false
  | .oseti i k e, sc, ob => match oneSt ob with
    | some (.Assign [.Subscript (.Name x _) ek _] ee _) => plainI ek && vOk N sc i x && mE nm N k false sc ek && mE nm N e false sc ee
    | _ => false
  | .fset o ci k e, sc, ob => match oneSt ob with
    | some (.Assign [.Attribute eo f _] ee _) => decide ((nm.lay ci)[k]? = some f) && nm.isL ci && mE nm N o false sc eo && mE nm N e false sc ee
    | _ => false
  | .setNAN i o ci k j e, sc, ob => match oneSt ob with
    | some (.Assign [.Tuple [.Name x _, .Attribute eo f _, .Name y _] _ _] ee _) => !(isTupE ee) && (decide (N[i]? = some x) && lcB true sc x) && (decide (N[j]? = some y) && lcB true sc y) && decide ((nm.lay ci)[k]? = some f) && nm.isL ci && mE nm N o false sc eo && mE nm N e false sc ee
    | _ => false
  | .faug o ci k e, sc, ob => match oneSt ob with
    | some (.AugAssign (.Attribute eo f _) .Add ee _) => decide ((nm.lay ci)[k]? = some f) && nm.isL ci && mE nm N o false sc eo && mE nm N e false sc ee
    | _ => false
  | .iff k a r, sc, ob => match oneSt ob with
    | some (.If ek ea er _) => mE nm N k true sc ek && mB a sc (.inr ea) && mB r sc (.inr er)
    | _ => false
  | .whl k a, sc, ob => match oneSt ob with
    | some (.While ek ea [] _) => mE nm N k true sc ek && mB a sc (.inr ea)
    | _ => false
  | .for tg it a, sc, ob => match oneSt ob with
    | some (.For etg eit ea [] _) => tgB N (fun _ => true) sc tg etg && mI nm N it (isTupE etg) sc eit && noSet eit && mB a sc (.inr ea)
    | _ => false
  | .ret e, sc, ob => match oneSt ob with
    | some (.Return (some ee) _) => mE nm N e false sc ee
    | _ => false
  | .retn, sc, ob => match oneSt ob with
    | some (.Return none _) => true
    | _ => false
  | .retv i, sc, ob => match oneSt ob with
    | some (.Return (some (.Name x _)) _) => vOk N sc i x
    | _ => false
  | .brk, sc, ob => match oneSt ob with
    | some (.Break _) => true
    | _ => false
  | .cnt, sc, ob => match oneSt ob with
    | some (.Continue _) => true
    | _ => false
  | .never, sc, ob => true
  | .lock st, sc, ob => match oneSt ob with
    | some s => mB st sc (.inl s)
    | _ => false
  | .lockN st, sc, ob => match oneSt ob with
    | some s => mB st sc (.inl s)
    | _ => false
  | .tryp st, sc, ob => match oneSt ob with
    | some (.Try body (_ :: _) [] [] _) => mB st sc (.inr body)
    | _ => false
  | .om m i as dst, sc, ob => match oneSt ob with
    | some (.Expr (.Call (.Attribute (.Name x _) f apos) es [] pos) _) => (match dst with | none => true | _ => false) && vOk N sc i x && decide (f = mN m) && atL apos pos && noStars es && (match es with
      | [] => mA0 m && (match as with | .nil => true | _ => false)
      | _ => mA1 m && mA nm N as sc es)
    | some (.Assign [.Name y _] (.Call (.Attribute (.Name x _) f apos) es [] pos) _) => (match dst with | some j => decide (N[j]? = some y) && lcB true sc y | _ => false) && vOk N sc i x && decide (f = mN m) && atL apos pos && noStars es && (match es with
      | [] => mA0 m && (match as with | .nil => true | _ => false)
      | _ => mA1 m && mA nm N as sc es)
    | _ => false
  | _, _, _ => false
end
section
variable {T : Tbl} {c : Nat → List Vx → Hs → VK2 → Prop} {cx : Cls2} {nm : Nm} {N : List Str} {X : Cx}
noncomputable def OutB (T : Tbl) (c : Nat → List Vx → Hs → VK2 → Prop) (cx : Cls2) (X : Cx) (r : R) (ob : Stmt ⊕ List Stmt) : Prop :=
  (∀ st, ob = .inl st → PS X st (liftS X.K cx (wpS T c r))) ∧ (∀ sts, ob = .inr sts → PSs X sts (liftS X.K cx (wpS T c r)))
structure HpX (X : Cx) : Prop where
  po : PassesOwn (model X.prog X.w) X.A X.env X.xe
  fn : ∀ x, X.fn x = true
noncomputable def ClmB (T : Tbl) (c : Nat → List Vx → Hs → VK2 → Prop) (cx : Cls2) (nm : Nm) (N : List Str) (r : R) : Prop := ∀ X, Okx T c cx nm N X → HpX X → ∀ sc ob, X.env.scope = sc → mB nm N r sc ob = true → OutB T c cx X r ob
theorem out_one {r : R} {ob : Stmt ⊕ List Stmt} {st : Stmt} (e : oneSt ob = some st) (h : PS X st (liftS X.K cx (wpS T c r))) : OutB T c cx X r ob := by
  unfold oneSt at e
  split at e
  · cases e
    exact ⟨fun st z => (by cases z; exact h), fun sts z => (by cases z)⟩
  · cases e
    exact ⟨fun st z => (by cases z), fun sts z => (by cases z; exact pss_one h)⟩
  · cases e
theorem sw_no {e : Expr} (h : noComp e = true) (t : Option Expr) (l : Nat) (env : Env) : swapsWith e t l env = pure false := by
  cases e <;> first | rfl | cases h
theorem sw_tup (e : Expr) (es : List Expr) (k : Nat) (p : Pos) (l : Nat) (env : Env) : swapsWithSole [.Tuple es k p] e l env = pure false := by
  cases e <;> rfl
theorem sw_cel {e : Expr} {x : Str} {py : Pos} {l : Nat} {env : Env} (h : celB env.scope x = true) : swapsWith e (some (.Name x py)) l env = pure false := by
  have k : (env.kindOf x == some .local) = false := by
    unfold celB at h
    unfold Env.kindOf
    split at h
    · rename_i q; rw [q]; rfl
    · cases h
  cases e <;> first | rfl | (show (pure (env.blockKind == .function && env.kindOf x == some .local && _ && _) : Sem Bool) = pure false; rw [k]; simp)
theorem sw_attr (e : Expr) (o : Expr) (f : Str) (p : Pos) (l : Nat) (env : Env) : swapsWith e (some (.Attribute o f p)) l env = pure false := by
  cases e <;> rfl
theorem asg_sub {o i : Expr} {pos : Pos} (h : plainI i = true) : ∀ v, assign (.Subscript o i pos) X.env v = (do
      let ov ← holding [v] (eval o X.env)
      let iv ← holding [v, ov] (eval i X.env)
      standAt pos
      holding [v, ov, iv] (setItem ov iv v)
      release [v, ov, iv] []) := by
  intro v
  cases i <;> first | rfl | cases h
theorem sw_sub (e o i : Expr) (p : Pos) (l : Nat) (env : Env) : swapsWithSole [.Subscript o i p] e l env = pure false := by
  cases e <;> rfl
variable (hc : CalMono c)
include hc
theorem cb_seq {a r : R} (ia : ClmB T c cx nm N a) (ir : ClmB T c cx nm N r) : ClmB T c cx nm N (.seq a r) := fun X h hp sc ob hs m => by
  unfold mB at m
  split at m
  · rename_i sts
    refine ⟨fun st z => (by cases z), fun sts' z => ?_⟩
    cases z
    split at m
    · exact pssImp ((ir X h hp sc _ hs m).2 _ rfl) fun D σ H w => st_box hc w
    · split at m
      · simp only [Bool.and_eq_true] at m
        exact st_seq hc ((ia X h hp sc _ hs m.1).1 _ rfl) ((ir X h hp sc _ hs m.2).2 _ rfl)
      · cases m
  · cases m
theorem cb_skip : ClmB T c cx nm N .skip := fun X h hp sc ob hs m => by
  unfold mB at m
  split at m
  · exact ⟨fun st z => (by cases z), fun sts z => by cases z; exact st_skip hc⟩
  · exact ⟨fun st z => (by cases z; exact st_pass hc), fun sts z => by cases z⟩
  · exact ⟨fun st z => (by cases z), fun sts z => by cases z; exact pss_one (st_pass hc)⟩
  · cases m
theorem cb_expr {e : R} : ClmB T c cx nm N (.expr e) := fun X h hp sc ob hs m => by
  unfold mB at m
  split at m
  · rename_i e1
    simp only [Bool.and_eq_true] at m
    exact out_one e1 (st_expr hc (((clm hc e).1 X h false sc _ hs m.2).1 rfl) (sw_no m.1 _ _ _))
  · cases m
theorem kind_of {sc : Scope} (m : (match sc.kind with | .function => true | _ => false) = true) : sc.kind = .function := by
  split at m
  · assumption
  · cases m
theorem cb_set {i : Nat} {e : R} : ClmB T c cx nm N (.set i e) := fun X h hp sc ob hs m => by
  unfold mB at m
  split at m
  · rename_i x py ee pos e1
    simp only [Bool.and_eq_true, Bool.or_eq_true, decide_eq_true_eq] at m
    obtain ⟨⟨⟨m1, m2⟩, m3⟩, m4⟩ := m
    have hl := lc_of hs (fun _ => hp.fn _) m2
    have hN := h.hN
    subst hN
    refine out_one e1 ?_
    rcases m4 with (m4 | m4) | ⟨⟨⟨m0, m4⟩, m5⟩, m6⟩
    · exact st_set hc (ps_set h.nd m1 hl.1 (((clm hc e).1 X h false sc _ hs m3).1 rfl) (sw_no m4 _ _ _) hl.2) fun _ _ _ z => z
    · exact st_set hc (ps_set h.nd m1 hl.1 (((clm hc e).1 X h false sc _ hs m3).1 rfl) (sw_cel (by rw [hs]; exact m4)) hl.2) fun _ _ _ z => z
    · have hl' : X.env.scope.names.lookup x = some .local := by rw [hs]; exact loc_of m0
      unfold cmpSet at m4
      split at m4
      · rename_i eelt gens scope cpos
        simp only [Bool.and_eq_true, Bool.not_eq_true'] at m4
        cases e with
        | comp tg elt it tst =>
          unfold mE at m3
          split at m3
          · rename_i eelt' etg eit ifs scope' _ e2
            cases e2
            rw [Bool.and_eq_true, Bool.and_eq_true, Bool.and_eq_true, Bool.and_eq_true, Bool.and_eq_true, Bool.and_eq_true] at m3
            obtain ⟨⟨⟨⟨⟨⟨ht, mt⟩, mi⟩, mb⟩, mn⟩, me⟩, mf⟩ := m3
            refine st_set hc (ps_setLc h.calm h.nd m1 hl' (sw_true (by rw [hs]; exact kind_of hc m5) hl' m4.1 m4.2) ((clm hc it).2.2.1 X h (isTupE etg) sc _ hs mi etg fun z => z) (blkOk_by (own := ownN X.N tg.is) (by rw [hs]; exact mb)) (g := tgG X.K tg) (tt := liftT X.K cx (wpE T c tst)) (te := liftE X.K cx (wpE T c elt))
              (fun s H C cl fp => ?_) (fun s H C cl fp => ?_) (fun s H C cl fp => ?_) (set_of mn)) fun σ H Q w => lc_ok hc (ownN_snd _ _) (fun _ _ _ h => h) (fun _ _ _ h => h) (fun _ _ _ h => h) w
            · exact tg_of (X := X.blk s H scope (compEnvC scope cl C X.env) fp) (fun x z => z) h.calm h.nd (show relS scope X.env.scope = relS scope sc by rw [hs]) mt
            · split at mf
              · split at mf
                · exact pts_tt hc
                · cases mf
              · exact pts_one (((clm hc tst).1 _ (h.blk s H scope (compEnvC scope cl C X.env) fp) true _ _ (show relS scope X.env.scope = relS scope sc by rw [hs]) mf).2 rfl).1
              · cases mf
            · exact ((clm hc elt).1 _ (h.blk s H scope (compEnvC scope cl C X.env) fp) false _ _ (show relS scope X.env.scope = relS scope sc by rw [hs]) me).1 rfl
          · cases m3
        | _ => cases m6
      · cases m4
  · cases m
theorem cb_setT {is : List Nat} {e : R} : ClmB T c cx nm N (.setT is e) := fun X h hp sc ob hs m => by
  unfold mB at m
  split at m
  · rename_i es k p ee pos e1
    simp only [Bool.and_eq_true, Bool.not_eq_true'] at m
    obtain ⟨⟨m2, m3⟩, m4⟩ := m
    have hN := h.hN
    subst hN
    obtain ⟨h1, h2, h3⟩ := tgN_of (fun x _ => hp.fn x) h.calm h.nd hs _ _ m3
    have hw : swappedStores [.Tuple es k p] ee X.env = pure none := by
      cases ee <;> first | rfl | cases m2
    exact out_one e1 (st_setT hc (ps_asg (((clm hc e).1 X h false sc _ hs m4).1 rfl) (pg_seq h.calm h1 h2 h3) (sw_tup _ _ _ _ _ _) hw rfl))
  · cases m
theorem cb_setNAN {i j ci k : Nat} {o e : R} : ClmB T c cx nm N (.setNAN i o ci k j e) := fun X h hp sc ob hs m => by
  unfold mB at m
  split at m
  · rename_i x px eo f pa y py kt pt ee pos e1
    simp only [Bool.and_eq_true, Bool.not_eq_true', decide_eq_true_eq] at m
    obtain ⟨⟨⟨⟨⟨⟨m1, mx1, mx2⟩, my1, my2⟩, m4⟩, m5⟩, m6⟩, m7⟩ := m
    have hN := h.hN
    subst hN
    have lx := lc_of hs (fun _ => hp.fn _) mx2
    have ly := lc_of hs (fun _ => hp.fn _) my2
    have hw : ∀ es, swappedStores [.Tuple es kt pt] ee X.env = pure none := fun es => by
      cases ee <;> first | rfl | cases m1
    exact out_one e1 (st_setNAN hc h.calm (h.cl ci m5) (by rw [h.lay]; exact m4) (pg_name h.nd mx1 lx.1 lx.2) (pg_name h.nd my1 ly.1 ly.2) (((clm hc o).1 X h false sc _ hs m6).1 rfl) (((clm hc e).1 X h false sc _ hs m7).1 rfl) (sw_tup _ _ _ _ _ _) (hw _))
  · cases m
theorem cb_seti {o k e : R} : ClmB T c cx nm N (.seti o k e) := fun X h hp sc ob hs m => by
  unfold mB at m
  split at m
  · rename_i eo ek p ee pos e1
    simp only [Bool.and_eq_true] at m
    obtain ⟨⟨⟨m2, m3⟩, m4⟩, m5⟩ := m
    exact out_one e1 (st_seti hc (ps_asg (((clm hc e).1 X h false sc _ hs m5).1 rfl) (pg_sub (((clm hc o).1 X h false sc _ hs m3).1 rfl) (((clm hc k).1 X h false sc _ hs m4).1 rfl) (pset_ok h.un h.wd) (asg_sub m2)) (sw_sub _ _ _ _ _ _) rfl rfl))
  · cases m
theorem cb_slcset {o e : R} : ClmB T c cx nm N (.slcset o e) := fun X h hp sc ob hs m => by
  unfold mB at m
  split at m
  · rename_i eo p0 p ee pos e1
    simp only [Bool.and_eq_true] at m
    obtain ⟨m2, m3⟩ := m
    exact out_one e1 (st_slcset hc (ps_asg (((clm hc e).1 X h false sc _ hs m3).1 rfl) (pg_slA (((clm hc o).1 X h false sc _ hs m2).1 rfl)) (sw_sub _ _ _ _ _ _) rfl rfl))
  · cases m
theorem cb_oseti {i : Nat} {k e : R} : ClmB T c cx nm N (.oseti i k e) := fun X h hp sc ob hs m => by
  unfold mB at m
  split at m
  · rename_i x px ek p ee pos e1
    simp only [Bool.and_eq_true] at m
    obtain ⟨⟨⟨m2, m3⟩, m4⟩, m5⟩ := m
    obtain ⟨h1, h2, h3, h4⟩ := vOk_of h hs m3
    exact out_one e1 (st_oseti hc (ps_asg (((clm hc e).1 X h false sc _ hs m5).1 rfl) (pg_sub (pe_var h1 h2 h3 h4) (((clm hc k).1 X h false sc _ hs m4).1 rfl) (pset_ok h.un h.wd) (asg_sub m2)) (sw_sub _ _ _ _ _ _) rfl rfl))
  · cases m
theorem cb_fset {o e : R} {ci k : Nat} : ClmB T c cx nm N (.fset o ci k e) := fun X h hp sc ob hs m => by
  unfold mB at m
  split at m
  · rename_i eo f p ee pos e1
    simp only [Bool.and_eq_true, decide_eq_true_eq] at m
    obtain ⟨⟨⟨m1, m2⟩, m3⟩, m4⟩ := m
    exact out_one e1 (st_fset hc (h.cl ci m2) (by rw [h.lay]; exact m1) (((clm hc o).1 X h false sc _ hs m3).1 rfl) (((clm hc e).1 X h false sc _ hs m4).1 rfl) (sw_attr _ _ _ _ _ _))
  · cases m
theorem cb_faug {o e : R} {ci k : Nat} : ClmB T c cx nm N (.faug o ci k e) := fun X h hp sc ob hs m => by
  unfold mB at m
  split at m
  · rename_i eo f p ee pos e1
    simp only [Bool.and_eq_true, decide_eq_true_eq] at m
    obtain ⟨⟨⟨m1, m2⟩, m3⟩, m4⟩ := m
    exact out_one e1 (st_faug hc (h.cl ci m2) (by rw [h.lay]; exact m1) (((clm hc o).1 X h false sc _ hs m3).1 rfl) (((clm hc e).1 X h false sc _ hs m4).1 rfl))
  · cases m
theorem cb_iff {k a r : R} (ia : ClmB T c cx nm N a) (ir : ClmB T c cx nm N r) : ClmB T c cx nm N (.iff k a r) := fun X h hp sc ob hs m => by
  unfold mB at m
  split at m
  · rename_i ek ea er pos e1
    simp only [Bool.and_eq_true] at m
    exact out_one e1 (st_iff hc (((clm hc k).1 X h true sc _ hs m.1.1).2 rfl).1 ((ia X h hp sc _ hs m.1.2).2 _ rfl) ((ir X h hp sc _ hs m.2).2 _ rfl))
  · cases m
theorem cb_whl {k a : R} (ia : ClmB T c cx nm N a) : ClmB T c cx nm N (.whl k a) := fun X h hp sc ob hs m => by
  unfold mB at m
  split at m
  · rename_i ek ea pos e1
    simp only [Bool.and_eq_true] at m
    exact out_one e1 (st_whl hc hp.po (((clm hc k).1 X h true sc _ hs m.1).2 rfl).1 ((ia X h hp sc _ hs m.2).2 _ rfl))
  · cases m
theorem cb_for {tg : Tg} {it a : R} (ia : ClmB T c cx nm N a) : ClmB T c cx nm N (.for tg it a) := fun X h hp sc ob hs m => by
  unfold mB at m
  split at m
  · rename_i etg eit ea pos e1
    simp only [Bool.and_eq_true] at m
    obtain ⟨⟨⟨m1, m2⟩, m3⟩, m4⟩ := m
    have hN := h.hN
    subst hN
    exact out_one e1 (st_for hc hp.po h.calm ((clm hc it).2.2.1 X h (isTupE etg) sc _ hs m2 etg fun z => z) (tg_of (fun x _ => hp.fn x) h.calm h.nd hs m1) ((ia X h hp sc _ hs m4).2 _ rfl) (set_of m3))
  · cases m
theorem cb_ret {e : R} : ClmB T c cx nm N (.ret e) := fun X h hp sc ob hs m => by
  unfold mB at m
  split at m
  · rename_i ee pos e1
    exact out_one e1 (st_ret hc (((clm hc e).1 X h false sc _ hs m).1 rfl))
  · cases m
theorem cb_retn : ClmB T c cx nm N .retn := fun X h hp sc ob hs m => by
  unfold mB at m
  split at m
  · rename_i pos e1
    exact out_one e1 (st_retn hc)
  · cases m
theorem cb_retv {i : Nat} : ClmB T c cx nm N (.retv i) := fun X h hp sc ob hs m => by
  unfold mB at m
  split at m
  · rename_i x p pos e1
    obtain ⟨h1, h2, h3, h4⟩ := vOk_of h hs m
    exact out_one e1 (st_retv hc h1 h2 h3 h4)
  · cases m
theorem cb_brk : ClmB T c cx nm N .brk := fun X h hp sc ob hs m => by
  unfold mB at m
  split at m
  · rename_i pos e1
    exact out_one e1 (st_brk hc)
  · cases m
theorem cb_cnt : ClmB T c cx nm N .cnt := fun X h hp sc ob hs m => by
  unfold mB at m
  split at m
  · rename_i pos e1
    exact out_one e1 (st_cnt hc)
  · cases m
theorem cb_never : ClmB T c cx nm N .never := fun X h hp sc ob hs m => ⟨fun st z => st_never hc, fun sts z => st_nevers hc⟩
theorem om_pe {mm : M} {i : Nat} {as : R} (h : Okx T c cx nm N X) {sc : Scope} (hs : X.env.scope = sc) {x f : Str} {es : List Expr} {p apos pos : Pos} (mv : vOk N sc i x = true) (hf : f = mN mm) (hl : atL apos pos = true) (m : (match es with
      | [] => mA0 mm && (match as with | .nil => true | _ => false)
      | _ => mA1 mm && mA nm N as sc es) = true) (hst : noStars es = true) : ∃ te : TE, PE X (.Call (.Attribute (.Name x p) f apos) es [] pos) te ∧ ∀ σ H Q, tBM X.K "list" (mOf X.K cx mm) (tVar i) (liftA X.K cx (wpE T c as)) σ H Q → te σ H Q := by
  obtain ⟨h1, h2, h3, h4⟩ := vOk_of h hs mv
  have po : PE X (.Name x p) (tVar i) := pe_var h1 h2 h3 h4
  have hsu : noSup (.Name x p) = true := rfl
  subst hf
  cases es with
  | nil =>
    simp only [Bool.and_eq_true] at m
    have e := as_nil hc m.2
    subst e
    have key : ∀ σ H Q, tBM X.K "list" (mOf X.K cx mm) (tVar i) (liftA X.K cx (wpE T c .nil)) σ H Q → tBM0 X.K "list" (mOf X.K cx mm) (tVar i) σ H Q := fun σ H Q ⟨v, e, ty, w⟩ => by
      obtain ⟨S, σ2, hr, rs, w⟩ := w
      exact ⟨v, e, ty, w [] H hr .refl .nil⟩
    cases mm with
    | pop => exact ⟨_, pe_bm0 PySem.F.plainAttrs_list PySem.F.slot_list_pop PySem.F.type_list_pop mut_pop po (base_of hsu _) hl, key⟩
    | clear => exact ⟨_, pe_bm0 PySem.F.plainAttrs_list PySem.F.slot_list_clear PySem.F.type_list_clear mut_clear po (base_of hsu _) hl, key⟩
    | _ => cases m.1
  | cons e es =>
    simp only [Bool.and_eq_true] at m
    have pa := (clm hc as).2.1 X h sc _ hs m.2
    have s1 := star_of (stars_tl hst).1 es X.env
    cases mm with
    | append => exact ⟨_, pe_bm PySem.F.plainAttrs_list PySem.F.slot_list_append PySem.F.type_list_append mut_append po pa (base_of hsu _) (few_of hst _) hl s1 (stars_of (stars_tl hst).2 _ _).1, fun _ _ _ z => z⟩
    | popAt => exact ⟨_, pe_bm PySem.F.plainAttrs_list PySem.F.slot_list_pop PySem.F.type_list_pop mut_popAt po pa (base_of hsu _) (few_of hst _) hl s1 (stars_of (stars_tl hst).2 _ _).1, fun _ _ _ z => z⟩
    | remove => exact ⟨_, pe_bm PySem.F.plainAttrs_list PySem.F.slot_list_remove PySem.F.type_list_remove mut_remove po pa (base_of hsu _) (few_of hst _) hl s1 (stars_of (stars_tl hst).2 _ _).1, fun _ _ _ z => z⟩
    | insert => exact ⟨_, pe_bm PySem.F.plainAttrs_list PySem.F.slot_list_insert PySem.F.type_list_insert mut_insert po pa (base_of hsu _) (few_of hst _) hl s1 (stars_of (stars_tl hst).2 _ _).1, fun _ _ _ z => z⟩
    | extend => exact ⟨_, pe_bm PySem.F.plainAttrs_list PySem.F.slot_list_extend PySem.F.type_list_extend mut_extend po pa (base_of hsu _) (few_of hst _) hl s1 (stars_of (stars_tl hst).2 _ _).1, fun _ _ _ z => z⟩
    | _ => cases m.1
theorem cb_om {mm : M} {i : Nat} {as : R} {dst : Option Nat} : ClmB T c cx nm N (.om mm i as dst) := fun X h hp sc ob hs m => by
  unfold mB at m
  split at m
  · rename_i x p f apos es pos spos e1
    rw [Bool.and_eq_true, Bool.and_eq_true, Bool.and_eq_true, Bool.and_eq_true, Bool.and_eq_true] at m
    obtain ⟨⟨⟨⟨⟨m1, m2⟩, m3⟩, m4⟩, m5⟩, m6⟩ := m
    obtain ⟨te, q, w⟩ := om_pe hc (mm := mm) (as := as) (p := p) h hs m2 (of_decide_eq_true m3) m4 m6 m5
    cases dst with
    | none => exact out_one e1 (st_om (es := []) hc w none (ps_expr q (sw_no rfl _ _ _)))
    | some j => cases m1
  · rename_i y py x p f apos es pos spos e1
    rw [Bool.and_eq_true, Bool.and_eq_true, Bool.and_eq_true, Bool.and_eq_true, Bool.and_eq_true] at m
    obtain ⟨⟨⟨⟨⟨m1, m2⟩, m3⟩, m4⟩, m5⟩, m6⟩ := m
    obtain ⟨te, q, w⟩ := om_pe hc (mm := mm) (as := as) (p := p) h hs m2 (of_decide_eq_true m3) m4 m6 m5
    cases dst with
    | none => cases m1
    | some j =>
      simp only [Bool.and_eq_true, decide_eq_true_eq] at m1
      have hl := lc_of hs (fun _ => hp.fn _) m1.2
      have hN := h.hN
      subst hN
      exact out_one e1 (st_om (es := []) hc w (some j) (ps_set h.nd m1.1 hl.1 q (sw_no rfl _ _ _) hl.2))
  · cases m
theorem cb_lock {st : R} (ia : ClmB T c cx nm N st) : ClmB T c cx nm N (.lock st) := fun X h hp sc ob hs m => by
  unfold mB at m
  split at m
  · rename_i s e1
    exact out_one e1 (st_lock hc ((ia X h hp sc _ hs m).1 _ rfl))
  · cases m
theorem cb_lockN {st : R} (ia : ClmB T c cx nm N st) : ClmB T c cx nm N (.lockN st) := fun X h hp sc ob hs m => by
  unfold mB at m
  split at m
  · rename_i s e1
    exact out_one e1 (st_lockN hc ((ia X h hp sc _ hs m).1 _ rfl))
  · cases m
theorem cb_tryp {st : R} (ia : ClmB T c cx nm N st) : ClmB T c cx nm N (.tryp st) := fun X h hp sc ob hs m => by
  unfold mB at m
  split at m
  · rename_i body h0 hr pos e1
    exact out_one e1 (ps_try_thru0 ((ia X.nox h.nox ⟨PassesOwn.never, hp.fn⟩ sc _ hs m).2 _ rfl))
  · cases m
theorem cb (r : R) : ClmB T c cx nm N r := by
  have no : ∀ {r : R}, (∀ sc ob, mB nm N r sc ob = false) → ClmB T c cx nm N r := fun h X _ _ sc ob _ m => by rw [h] at m; cases m
  induction r with
  | seq a r ia ir => exact cb_seq hc ia ir
  | skip => exact cb_skip hc
  | expr e _ => exact cb_expr hc
  | set i e _ => exact cb_set hc
  | setT is e _ => exact cb_setT hc
  | seti o k e _ _ _ => exact cb_seti hc
  | slcset o e _ _ => exact cb_slcset hc
  | oseti i k e _ _ => exact cb_oseti hc
  | setNAN i o ci k j e _ _ => exact cb_setNAN hc
  | fset o ci k e _ _ => exact cb_fset hc
  | faug o ci k e _ _ => exact cb_faug hc
  | iff k a r _ ia ir => exact cb_iff hc ia ir
  | whl k a _ ia => exact cb_whl hc ia
  | «for» tg it a _ ia => exact cb_for hc ia
  | ret e _ => exact cb_ret hc
  | retn => exact cb_retn hc
  | retv i => exact cb_retv hc
  | brk => exact cb_brk hc
  | cnt => exact cb_cnt hc
  | never => exact cb_never hc
  | lock st ia => exact cb_lock hc ia
  | lockN st ia => exact cb_lockN hc ia
  | tryp st ia => exact cb_tryp hc ia
  | om m i as dst _ => exact cb_om hc
  | _ => exact no fun _ _ => rfl
end
structure DefI where
  id : Nat
  name : Str
  qual : Str
  st : Stmt
  N : List Str
  ps : List Str
  fn : Fn
  mt : Option Nat
  dn : Bool := false
structure ClsI where
  id : Nat
  name : Str
  lay : List Str
  ini : Nat
structure Inf where
  defs : List DefI
  clss : List ClsI
  gls : List (Nat × Str × Vx)
  kds : List (Nat × Str × List (List Nat × D)) := []
noncomputable def Inf.df (L : Inf) (f : Nat) : Option DefI := L.defs.find? fun d => d.id == f
noncomputable def Inf.cl (L : Inf) (f : Nat) : Option ClsI := L.clss.find? fun d => d.id == f
noncomputable def Inf.gl (L : Inf) (k : Nat) : Option (Nat × Str × Vx) := L.gls.find? fun d => d.1 == k
noncomputable def Inf.kdf (L : Inf) (k : Nat) : Option (Nat × Str × List (List Nat × D)) := L.kds.find? fun d => d.1 == k
noncomputable def Inf.T (L : Inf) : Tbl where
  fn f := (L.df f).map (·.fn)
  glob k := match L.gl k with
    | some g => g.2.2
    | none => .d .non
  cini c := match L.cl c with
    | some c => c.ini
    | none => 0
  fcls f := match L.df f with
    | some d => d.mt.getD 0
    | none => 0
  kd k := match L.kdf k with
    | some g => g.2.2
    | none => []
noncomputable def Inf.nm (L : Inf) : Nm where
  fnm f := match L.df f with
    | some d => d.name
    | none => ""
  mnm f := match L.df f with
    | some d => d.name
    | none => ""
  gnm k := match L.gl k with
    | some g => g.2.1
    | none => ""
  cnm c := match L.cl c with
    | some c => c.name
    | none => ""
  lay c := match L.cl c with
    | some c => c.lay
    | none => []
  isF f := match L.df f with
    | some d => d.mt.isNone
    | none => false
  isM f := match L.df f with
    | some d => d.mt.isSome
    | none => false
  isG k := (L.gl k).isSome
  isC c := match L.cl c with
    | some c => (match L.df c.ini with
      | some d => decide (d.mt = some c.id) && decide (d.name = ("__init__" : Str))
      | none => false)
    | none => false
  isD c := match L.cl c with
    | some c => (match L.df c.ini with
      | some d => decide (d.mt = some c.id) && decide (d.name = ("__init__" : Str)) && d.dn
      | none => false)
    | none => false
  isL c := (L.cl c).isSome
  isK k := (L.kdf k).isSome
  knm k := match L.kdf k with
    | some g => g.2.1
    | none => ""
noncomputable def scB (N ps : List Str) (sc : Scope) : Bool :=
  (match sc.kind with | .function => true | _ => false) && !sc.isCoroutine && !sc.isGenerator && decide (N.Nodup) && decide (N.take ps.length = ps) &&
    (ps.all fun x => match sc.names.lookup x with | some .local => true | some .cell => true | _ => false) && (sc.names.all fun y => match y.2 with | .free => false | _ => true)
theorem sc_of {N ps : List Str} {sc : Scope} (h : scB N ps sc = true) : FnScope N ps sc := by
  unfold scB at h
  simp only [Bool.and_eq_true, Bool.not_eq_true', decide_eq_true_eq, List.all_eq_true] at h
  obtain ⟨⟨⟨⟨⟨⟨h1, h2⟩, h3⟩, h4⟩, h5⟩, h6⟩, h7⟩ := h
  refine ⟨?_, h2, h3, h4, h5, fun x hx => ?_, fun y hy e => ?_⟩
  · split at h1
    · assumption
    · cases h1
  · have q := h6 x hx
    split at q
    · exact .inl (by assumption)
    · exact .inr (by assumption)
    · cases q
  · have q := h7 y hy
    rw [e] at q
    cases q
noncomputable def chkD (L : Inf) (d : DefI) : Bool := scB d.N d.ps (defScope d.st) && decide (d.fn.np = d.ps.length) && decide (d.fn.nl = d.N.length) && mB L.nm d.N d.fn.body (defScope d.st) (.inr (defBody d.st))
structure FunW (K : Frag) (x qual : Str) (st : Stmt) (f : Addr) (fd : FuncData) : Prop where
  ex : ∃ (oc : Value) (od : Option Addr) (dV kV doc pm : Value) (an : Option Addr) (cdv ct : Value) (osl : Array (Option Value)),
    fd = PySem.W.fnOf x qual (defArgs st) (defBody st) (defScope st) dV kV doc pm an cdv ct ∧ K.lookup f = some ⟨oc, od, .func fd, osl⟩ ∧ PySem.W.codeIn K cdv qual = true
theorem FunW.ok {P : Program} {w : World} {K : Frag} {mg : Str → Option Value} {base : Heap} {x qual : Str} {st : Stmt} {f : Addr} {fd : FuncData} {N ps : List Str} {k : Nat} {sp : Sp} (F : FunW K x qual st f fd) (S : FnScope N ps (defScope st)) (len : ∀ vs H Q E, sp vs H Q E → vs.length = ps.length)
    (hb : ∀ (cdv : Value) (A : Around) (outer : List Env) (s : Shared) (H : Hp) (vs : List V) (Q : VK) (E : XK), Room k (A.deeper (envOfC qual (defScope st) s.heap.objs.size f cdv)) → sp vs H Q E →
      ∃ t, PSs (cxOf CX0 P w K mg base N qual (defScope st) f cdv A outer s H E).nox (defBody st) t ∧ t { nx := fun _ H' => Q .non H', rt := Q } (L2.start N vs) H) : FnOk P w K mg base CX0 (k + 1) f fd ps sp := by
  obtain ⟨oc, od, dV, kV, doc, pm, an, cdv, ct, osl, rfl, lk, hcd⟩ := F.ex
  exact fn_of lk hcd S len fun A outer s H vs Q E hr hsp => match hb cdv A outer s H vs Q E hr hsp with
    | ⟨t, h, q⟩ => ⟨t, h.nox, q⟩
structure FunAt (L : Inf) (K : Frag) (mg : Str → Option Value) (adr : Nat → Addr) (d : DefI) (fa : Addr) (fd : FuncData) : Prop where
  f : FunW K d.name d.qual d.st fa fd
  b : Binds K fd d.ps []
  b1 : d.dn = true → ∃ ds, Vals [V.non] ds ∧ Binds K fd d.ps ds
  r : match d.mt with
    | none => mg d.name = some (.ref fa) ∧ PySem.W.keepIn K (.ref fa) = true
    | some ci => Cls K (adr ci) ∧ Meth K (adr ci) d.name fa ∧ d.name ∉ L.nm.lay ci
structure Facts (L : Inf) (K : Frag) (mg : Str → Option Value) (adr : Nat → Addr) (w : World) : Prop where
  df : ∀ d ∈ L.defs, ∃ fa fd, FunAt L K mg adr d fa fd
  cl : ∀ c ∈ L.clss, ClsOk K ⟨adr, L.nm.lay, w⟩ c.id ∧ PySem.W.makesIn K (adr c.id) = true ∧ PySem.W.keepIn K (.ref (adr c.id)) = true ∧ mg c.name = some (.ref (adr c.id))
  gl : ∀ g ∈ L.gls, ∃ v u, mg g.2.1 = some u ∧ RelV v u ∧ own g.2.2 = false ∧ ∀ S H, Rel K ⟨adr, L.nm.lay, w⟩ S H → RepX K H S g.2.2 v
  blt : ∀ x ∈ bltNames, mg x = none
  kd : ∀ g ∈ L.kds, KdOk K w mg g.2.1 g.2.2
structure Inf.Chk (L : Inf) : Prop where
  d : ∀ d ∈ L.defs, chkD L d = true
  ids : ∀ d ∈ L.defs, L.df d.id = some d
theorem startS_len {nl : Nat} {xs : List Vx} (h : xs.length ≤ nl) : (startS nl xs).length = nl := by unfold startS; simp; omega
theorem start_at {N : List Str} {xs : List Vx} {vs : List V} {K : Frag} {S : Hs} {H : Hp} (r : Paired (RepX K H S) xs vs) : ∀ (i : Nat) (x : Vx), (startS N.length xs)[i]? = some (some x) → x ∈ xs ∧ ∃ v, (L2.start N vs)[i]? = some (some v) ∧ RepX K H S x v := by
  intro i x e
  have hl := Paired.length r
  unfold startS at e
  unfold L2.start
  by_cases hi : i < xs.length
  · rw [List.getElem?_append_left (by simpa using hi)] at e
    rw [List.getElem?_append_left (by simpa [← hl] using hi)]
    rw [List.getElem?_map] at e
    cases q : xs[i]? with
    | none => rw [q] at e; cases e
    | some y =>
      rw [q] at e
      cases e
      refine ⟨List.mem_of_getElem? q, ?_⟩
      clear hi hl
      induction r generalizing i with
      | nil => simp at q
      | cons p t ih =>
        cases i with
        | zero => simp at q; subst q; exact ⟨_, rfl, p⟩
        | succ i =>
          have q' := by simpa using q
          obtain ⟨v, h1, h2⟩ := ih i q'
          exact ⟨v, by simpa using h1, h2⟩
  · rw [List.getElem?_append_right (by simpa using Nat.le_of_not_lt hi)] at e
    have := List.mem_of_getElem? e
    simp at this
section
variable {L : Inf} {P : Program} {w : World} {K : Frag} {mg : Str → Option Value} {base : Heap} {adr : Nat → Addr}
theorem df_of (hL : L.Chk) {f : Nat} {d : DefI} (e : L.df f = some d) : d ∈ L.defs ∧ d.id = f := by
  unfold Inf.df at e
  exact ⟨List.mem_of_find?_eq_some e, by have := List.find?_some e; simpa using this⟩
theorem cl_of {f : Nat} {d : ClsI} (e : L.cl f = some d) : d ∈ L.clss ∧ d.id = f := by
  unfold Inf.cl at e
  exact ⟨List.mem_of_find?_eq_some e, by have := List.find?_some e; simpa using this⟩
theorem gl_of' {f : Nat} {d : Nat × Str × Vx} (e : L.gl f = some d) : d ∈ L.gls ∧ d.1 = f := by
  unfold Inf.gl at e
  exact ⟨List.mem_of_find?_eq_some e, by have := List.find?_some e; simpa using this⟩
theorem num_ok (hL : L.Chk) (n : Nat) {d : DefI} (hd : d ∈ L.defs) : NumOk (cal L.T n) d.id d.ps.length := by
  intro xs S Q h
  cases n with
  | zero => exact h.elim
  | succ n =>
    obtain ⟨F, e, l, _⟩ := h
    have hc := hL.d d hd
    have ef : L.T.fn d.id = some d.fn := by show (L.df d.id).map (·.fn) = _; rw [hL.ids d hd]; rfl
    rw [ef] at e; cases e
    unfold chkD at hc
    simp only [Bool.and_eq_true, decide_eq_true_eq] at hc
    rw [l, hc.1.1.2]
theorem lev (hL : L.Chk) (X : Facts L K mg adr w) : ∀ n, ∀ d ∈ L.defs, ∀ fa fd, FunAt L K mg adr d fa fd → FnOk P w K mg base CX0 (2 * n) fa fd d.ps (spOf K ⟨adr, L.nm.lay, w⟩ (cal L.T n) d.id d.ps.length)
  | 0, d, hd, fa, fd, hf => ⟨fun vs H Q E h => h.1, fun A outer s H args us vs Q E _ _ _ _ h => by obtain ⟨_, S, xs, _, _, w⟩ := h; exact w.elim⟩
  | n + 1, d, hd, fa, fd, hf => by
    have hc := hL.d d hd
    unfold chkD at hc
    simp only [Bool.and_eq_true, decide_eq_true_eq] at hc
    obtain ⟨⟨⟨c1, c2⟩, c3⟩, c4⟩ := hc
    have ef : L.T.fn d.id = some d.fn := by show (L.df d.id).map (·.fn) = _; rw [hL.ids d hd]; rfl
    have ih := lev hL X n
    refine hf.f.ok (k := 2 * n + 1) (sc_of c1) (fun vs H Q E h => h.1) fun cdv A outer s H vs Q E hr h => ?_
    obtain ⟨hl, S, xs, hrel, hp, F, e, ll, ho, wp⟩ := h
    rw [ef] at e; cases e
    have okx : Okx L.T (cal L.T n) ⟨adr, L.nm.lay, w⟩ L.nm d.N (cxOf CX0 P w K mg base d.N d.qual (defScope d.st) fa cdv A outer s H E).nox := by
      refine ⟨rfl, rfl, (sc_of c1).nd, by have := hr.un; show (A.deeper _).units + 65 < _; omega, X.blt, rfl, rfl, fun f hf => ?_, fun f hf => ?_, fun ci hf => ?_, fun ci hf => ?_, fun ci hf => ?_, fun k hf => ?_, fun k hf => ?_⟩
      · cases q : L.df f with
        | none => rw [show L.nm.isF f = (match L.df f with | some d => d.mt.isNone | none => false) from rfl, q] at hf; cases hf
        | some d' =>
          rw [show L.nm.isF f = (match L.df f with | some d => d.mt.isNone | none => false) from rfl, q] at hf
          obtain ⟨hd', rfl⟩ := df_of hL q
          obtain ⟨fa', fd', g⟩ := X.df d' hd'
          have r := g.r
          rw [show d'.mt = none from Option.isNone_iff_eq_none.mp hf] at r
          refine ⟨2 * n, fa', fd', d'.ps, d'.ps.length, ih d' hd' fa' fd' g, num_ok hL n hd', hr.mono (by omega), ?_, r.2, g.b⟩
          show mg (match L.df d'.id with | some d => d.name | none => "") = _
          rw [q]; exact r.1
      · cases q : L.df f with
        | none => rw [show L.nm.isM f = (match L.df f with | some d => d.mt.isSome | none => false) from rfl, q] at hf; cases hf
        | some d' =>
          rw [show L.nm.isM f = (match L.df f with | some d => d.mt.isSome | none => false) from rfl, q] at hf
          obtain ⟨hd', rfl⟩ := df_of hL q
          obtain ⟨fa', fd', g⟩ := X.df d' hd'
          obtain ⟨ci, eci⟩ := Option.isSome_iff_exists.mp hf
          have r := g.r
          rw [eci] at r
          have e1 : L.T.fcls d'.id = ci := by show (match L.df d'.id with | some d => d.mt.getD 0 | none => 0) = _; rw [q]; simp [eci]
          have e2 : L.nm.mnm d'.id = d'.name := by show (match L.df d'.id with | some d => d.name | none => "") = _; rw [q]
          refine ⟨2 * n, fa', fd', d'.ps, d'.ps.length, ?_, ?_, ?_, ih d' hd' fa' fd' g, num_ok hL n hd', hr.mono (by omega), g.b⟩
          · rw [e1]; exact r.1
          · rw [e1, e2]; exact r.2.1
          · rw [e1, e2]; exact r.2.2
      · cases q : L.cl ci with
        | none => rw [show L.nm.isC ci = (match L.cl ci with | some c => (match L.df c.ini with | some d => decide (d.mt = some c.id) && decide (d.name = ("__init__" : Str)) | none => false) | none => false) from rfl, q] at hf; cases hf
        | some c =>
          rw [show L.nm.isC ci = (match L.cl ci with | some c => (match L.df c.ini with | some d => decide (d.mt = some c.id) && decide (d.name = ("__init__" : Str)) | none => false) | none => false) from rfl, q] at hf
          obtain ⟨hcm, rfl⟩ := cl_of q
          simp only at hf
          cases q2 : L.df c.ini with
          | none => rw [q2] at hf; cases hf
          | some d' =>
            rw [q2] at hf
            simp only [Bool.and_eq_true, decide_eq_true_eq] at hf
            obtain ⟨hd', eid⟩ := df_of hL q2
            obtain ⟨fa', fd', g⟩ := X.df d' hd'
            have r := g.r
            rw [hf.1] at r
            obtain ⟨k1, k2, k3, k4⟩ := X.cl c hcm
            have e1 : L.T.cini c.id = d'.id := by show (match L.cl c.id with | some c => c.ini | none => 0) = _; rw [q]; exact eid.symm
            have e2 : L.nm.cnm c.id = c.name := by show (match L.cl c.id with | some c => c.name | none => "") = _; rw [q]
            have r2 := r.2.1.at_
            rw [hf.2] at r2
            rw [e1, e2]
            exact ⟨2 * n, fa', fd', d'.ps, d'.ps.length, ⟨k2, r2, r.2.1.fn, k3⟩, ih d' hd' fa' fd' g, num_ok hL n hd', hr, k4, g.b⟩
      · cases q : L.cl ci with
        | none => rw [show L.nm.isD ci = (match L.cl ci with | some c => (match L.df c.ini with | some d => decide (d.mt = some c.id) && decide (d.name = ("__init__" : Str)) && d.dn | none => false) | none => false) from rfl, q] at hf; cases hf
        | some c =>
          rw [show L.nm.isD ci = (match L.cl ci with | some c => (match L.df c.ini with | some d => decide (d.mt = some c.id) && decide (d.name = ("__init__" : Str)) && d.dn | none => false) | none => false) from rfl, q] at hf
          obtain ⟨hcm, rfl⟩ := cl_of q
          simp only at hf
          cases q2 : L.df c.ini with
          | none => rw [q2] at hf; cases hf
          | some d' =>
            rw [q2] at hf
            simp only [Bool.and_eq_true, decide_eq_true_eq] at hf
            obtain ⟨hd', eid⟩ := df_of hL q2
            obtain ⟨fa', fd', g⟩ := X.df d' hd'
            have r := g.r
            rw [hf.1.1] at r
            obtain ⟨k1, k2, k3, k4⟩ := X.cl c hcm
            have e1 : L.T.cini c.id = d'.id := by show (match L.cl c.id with | some c => c.ini | none => 0) = _; rw [q]; exact eid.symm
            have e2 : L.nm.cnm c.id = c.name := by show (match L.cl c.id with | some c => c.name | none => "") = _; rw [q]
            have r2 := r.2.1.at_
            rw [hf.1.2] at r2
            rw [e1, e2]
            obtain ⟨ds, hds, hb1⟩ := g.b1 hf.2
            exact ⟨2 * n, fa', fd', d'.ps, d'.ps.length, ds, ⟨k2, r2, r.2.1.fn, k3⟩, ih d' hd' fa' fd' g, num_ok hL n hd', hr, k4, hds, hb1⟩
      · cases q : L.cl ci with
        | none => rw [show L.nm.isL ci = (L.cl ci).isSome from rfl, q] at hf; cases hf
        | some c =>
          obtain ⟨hcm, rfl⟩ := cl_of q
          exact (X.cl c hcm).1
      · cases q : L.gl k with
        | none => rw [show L.nm.isG k = (L.gl k).isSome from rfl, q] at hf; cases hf
        | some g =>
          obtain ⟨hgm, e⟩ := gl_of' q
          have e1 : L.nm.gnm k = g.2.1 := by show (match L.gl k with | some g => g.2.1 | none => "") = _; rw [q]
          have e2 : L.T.glob k = g.2.2 := by show (match L.gl k with | some g => g.2.2 | none => .d .non) = _; rw [q]
          rw [e1, e2]
          exact X.gl g hgm
      · cases q : L.kdf k with
        | none => rw [show L.nm.isK k = (L.kdf k).isSome from rfl, q] at hf; cases hf
        | some g =>
          have hgm : g ∈ L.kds := by unfold Inf.kdf at q; exact List.mem_of_find?_eq_some q
          have e1 : L.nm.knm k = g.2.1 := by show (match L.kdf k with | some g => g.2.1 | none => "") = _; rw [q]
          have e2 : L.T.kd k = g.2.2 := by show (match L.kdf k with | some g => g.2.2 | none => []) = _; rw [q]
          rw [e1, e2]
          exact X.kd g hgm
    refine ⟨liftS K ⟨adr, L.nm.lay, w⟩ (wpS L.T (cal L.T n) d.fn.body), (cb (cal_mono n) d.fn.body _ okx ⟨PassesOwn.never, fun _ => rfl⟩ _ _ rfl c4).2 _ rfl, ?_⟩
    have hlen : xs.length = vs.length := Paired.length hp
    have hN : vs.length ≤ d.N.length := by
      have := congrArg List.length (sc_of c1).pre
      rw [List.length_take] at this
      omega
    have all : ∀ x ∈ xs, own x = false := fun x hx => by
      have := List.all_eq_true.mp ho x hx
      simpa using this
    refine ⟨⟨fun b => S b = none ∧ H b ≠ none, H, H⟩, S, startS d.fn.nl xs, hrel, ⟨⟨?_, fun i x e => ?_⟩, fun i x a e o _ => ?_, fun i x a e l e' => ?_⟩, ⟨fun b z => ⟨z.1, rfl, z.2⟩, fun b z => z⟩, ?_⟩
    · rw [startS_len (by rw [c3, hlen]; exact hN), c3]; unfold L2.start; simp; omega
    · rw [c3] at e
      exact (start_at hp i x e).2
    · rw [c3] at e
      rw [all x (start_at hp i x e).1] at o; cases o
    · rw [c3] at e
      obtain ⟨_, v, h1, h2⟩ := start_at hp i x e
      rw [h1] at e'; cases e'
      cases x with
      | bw ds => obtain ⟨p, us, ep, h, nn, _⟩ := h2; cases ep; exact ⟨nn, by rw [h]; simp⟩
      | bd ds => obtain ⟨p, us, ep, h, nn, _⟩ := h2; cases ep; exact ⟨nn, by rw [h]; simp⟩
      | _ => cases l
    · have kp : ∀ {B' : Bs} {S' : Hs} {H' : Hp}, Bs.Le ⟨fun b => S b = none ∧ H b ≠ none, H, H⟩ B' → KeepB B' S' H' → Keep S S' H H' := fun {B' S' H'} l k => by
        have k := KeepB.le l k
        exact ⟨fun b o e n => by
          obtain ⟨h1, h2, h3⟩ := k.st b ⟨n, by rw [e]; simp⟩
          exact ⟨h2.trans e, h1⟩, k.hn⟩
      refine wpS_mono (cal_mono n) (fun σ2 S' q B' σ' H' l hr' rs' kb' => q _ _ hr' (kp l kb') ⟨rfl, fun e => by cases e⟩) (fun x S' q B' v H' l hr' kb' rx ho' => q v H' hr' (kp l kb') ⟨rx, ho'⟩) (fun _ _ z => z.elim) (fun _ _ z => z.elim) wp
noncomputable def spLaw (K : Frag) : Sp := fun vs H Q _ => ∃ (a : Addr) (ns : List Int), vs = [.ref a] ∧ Only H ∧ SqL K H a (ns.map V.int) ∧ ns.length ≤ 63 ∧ (∀ z ∈ ns, Builtin.Int.intBits z ≤ 1048576) ∧ ∀ H', Q (.bl true) H'
noncomputable def Holds2 (L : Inf) (f : Nat) : Prop := ∀ ns : List Int, ns.length ≤ 63 → (∀ z ∈ ns, Builtin.Int.intBits z ≤ 1048576) → cal L.T 100 f [.fz (ns.map D.int)] (fun _ => none) fun r _ => r = .d (.bl true)
theorem law_ok (hL : L.Chk) (X : Facts L K mg adr w) {d : DefI} (hd : d ∈ L.defs) (hps : d.ps = [("script" : Str)]) (h2 : Holds2 L d.id) {fa : Addr} {fd : FuncData} (hf : FunAt L K mg adr d fa fd) : FnOk P w K mg base CX0 200 fa fd ["script"] (spLaw K) := by
  have h := lev (P := P) (w := w) (base := base) hL X 100 d hd fa fd hf
  rw [hps] at h
  refine h.imp fun vs H Q E ⟨a, ns, e, hO, hS, hl, hb, k⟩ => ?_
  subst e
  refine ⟨rfl, fun _ => none, [.fz (ns.map D.int)], (fun b o e => (by cases e)), .cons ⟨a, ns.map V.int, rfl, ?_, RepL.ofInts ns⟩ .nil, cal_mono 100 _ _ _ _ _ (fun x S e v H' hr kk rx => ?_) (h2 ns hl hb)⟩
  · rcases hS with (hS | ⟨o, hS⟩) | hS
    · rcases hO a with z | ⟨o, xs, z⟩
      · rw [z] at hS; cases hS
      · rw [z] at hS; cases hS
    · exact .inl ⟨o, hS, rfl⟩
    · exact .inr (.inr hS)
  · subst e
    cases rx.1
    exact k H'
end
theorem chk_of {L : Inf} (h : L.defs.all (chkD L) = true) (hn : (L.defs.map (·.id)).Nodup) : L.Chk := by
  refine ⟨fun d hd => List.all_eq_true.mp h d hd, fun d hd => ?_⟩
  unfold Inf.df
  clear h
  generalize L.defs = ds at hn hd
  induction ds with
  | nil => cases hd
  | cons e es ih =>
    simp only [List.map_cons, List.nodup_cons] at hn
    rcases List.mem_cons.mp hd with rfl | hd
    · simp [List.find?_cons]
    · have ne : e.id ≠ d.id := fun z => hn.1 (z ▸ List.mem_map_of_mem hd)
      rw [List.find?_cons]
      have : (e.id == d.id) = false := beq_eq_false_iff_ne.mpr ne
      rw [this]
      exact ih hn.2 hd
section
variable {K : Frag} {mg : Str → Option Value} {h : Heap}
end
noncomputable abbrev AlY : Type := He.AlD × Bool × List (Option (List (Option (Str × Int))))
noncomputable def frA {β : Type} (n : Nat) (k : Nat → β) : β := match n with
  | 0 => k 0
  | m + 1 => k (m + 1)
theorem frA_eq {β : Type} (n : Nat) (k : Nat → β) : frA n k = k n := by cases n <;> rfl
noncomputable def frK {β : Type} : Frag → (Frag → β) → β
  | [], k => k []
  | (a, o) :: r, k => frA a fun a => frK r fun r => k ((a, o) :: r)
theorem frK_eq {β : Type} : ∀ (l : Frag) (k : Frag → β), frK l k = k l
  | [], _ => rfl
  | (a, o) :: r, k => by
    show (frA a fun a => frK r fun r => k ((a, o) :: r)) = _
    rw [frA_eq, frK_eq r]
noncomputable def asY (g : Addr → Option Obj) : Nat → List Addr → List Addr
  | 0, fr => fr
  | n + 1, fr => fr ++ asY g n (fr.flatMap fun a => match g a with
    | some o => He.refsD o
    | none => [])
noncomputable def obsY (n : Nat) (fa : List He.Fa) (fn : List He.DefD) (ts : List He.Tab) (ex : Frag → Bool) (g : Addr → Option Obj) : AlY := frK (He.frG g (asY g n [mainGlobals])) fun K => (He.obsD fa fn K, ex K, ts.map fun t => He.dicW K (t.1 K))
structure SaysY (fa : List He.Fa) (fn : List He.DefD) (ts : List He.Tab) (ex : Frag → Bool) (w : World) (K : Frag) : Prop where
  d : He.SaysD fa fn K
  e : ex K = true
  t : (ts.map fun t => He.dicW K (t.1 K)) = ts.map fun t => some (He.keysIn w.params t.2)
noncomputable def hookY (n : Nat) (fa : List He.Fa) (fn : List He.DefD) (ts : List He.Tab) (ex : Frag → Bool) : PySem.W.Hook where
  α := AlY
  obs := fun s => obsY n fa fn ts ex s.heap.get?
  val := fun w => (He.valD fn, true, ts.map fun t => some (He.keysIn w.params t.2))
  says := fun w h => ∃ K : Frag, K.In h ∧ SaysY fa fn ts ex w K
  of := fun w s e => by
    have e : obsY n fa fn ts ex s.heap.get? = (He.valD fn, true, ts.map fun t => some (He.keysIn w.params t.2)) := e
    unfold obsY at e
    rw [frK_eq] at e
    exact ⟨_, He.frG_in, congrArg (fun z : AlY => z.1) e, congrArg (fun z : AlY => z.2.1) e, congrArg (fun z : AlY => z.2.2) e⟩
  keeps := fun _ _ _ ⟨K, hK, c⟩ k => ⟨K, PySem.W.Frag.In.keeps hK k, c⟩
theorem obsY_eq {n : Nat} {fa : List He.Fa} {fn : List He.DefD} {ts : List He.Tab} {ex : Frag → Bool} {g : Addr → Option Obj} {s : Shared} (h : ∀ a, g a = s.heap.get? a) : obsY n fa fn ts ex g = (hookY n fa fn ts ex).obs s := by
  have e : g = s.heap.get? := funext h
  rw [e]; rfl
section
variable {L : Inf} {K : Frag} {mg : Str → Option Value} {adr : Nat → Addr} {h : Heap}
theorem FunW.ofD {x qual : Str} {st : Stmt} {dvs : List V} {kws : List (Str × V)} {f : Addr} {fd : FuncData} (F : FunD K x qual (defArgs st) (defBody st) (defScope st) dvs kws f fd) : FunW K x qual st f fd := by
  obtain ⟨oc, od, dV, kV, doc, pm, an, cdv, ct, osl, e, lk, hcd, _⟩ := F.ex
  exact ⟨oc, od, dV, kV, doc, pm, an, cdv, ct, osl, e, lk, hcd⟩
theorem yf_fun {d : DefI} (hdn : d.dn = false) (hm : d.mt = none) {f : Addr} {fd : FuncData} (a : mg d.name = some (.ref f)) (F : FunD K d.name d.qual (defArgs d.st) (defBody d.st) (defScope d.st) [] [] f fd)
    (hb : ∀ (kV doc pm : Value) (an : Option Addr) (cdv ct : Value) (us : List Value), us.length = d.ps.length → bindArgs (PySem.W.fnOf d.name d.qual (defArgs d.st) (defBody d.st) (defScope d.st) .none kV doc pm an cdv ct) ⟨us, []⟩ = pure (d.ps.zip us)) :
    FunAt L K mg adr d f fd :=
  ⟨.ofD F, F.bindsN hb, fun e => (by rw [hdn] at e; cases e), by rw [hm]; exact ⟨a, F.kp⟩⟩
theorem yf_int {cx : Cls2} (KX : K.In h) (G : h.Ns mainGlobals mg) {x : Str} {k : Nat} {i : Int} (c : (He.Fa.int x i).ok K = true) :
    ∃ v u, mg ((k, x, Vx.d (.int i)) : Nat × Str × Vx).2.1 = some u ∧ RelV v u ∧ own ((k, x, Vx.d (.int i)) : Nat × Str × Vx).2.2 = false ∧ ∀ S H, Rel K cx S H → RepX K H S ((k, x, Vx.d (.int i)) : Nat × Str × Vx).2.2 v :=
  let ⟨t, e⟩ := He.int_ok KX G c
  ⟨.int i, _, e, ⟨t, rfl⟩, rfl, fun _ _ _ => rfl⟩
end
theorem walkE {l : PySem.W.OpenLaw} {q : Program} {loose : List Str} {XP : (Str → Option Value) → Heap → Prop} {YP : World → Heap → Prop} {d : DefRec} (hn : l.most = some 63) (hdf : d.params.defaults = [])
    (F : ∀ (w : World) (mg : Str → Option Value) (fa : Addr) (h : Heap), YP w h → h.Ns mainGlobals mg → mg d.name = some (.ref fa) →
      ∃ (K : Frag) (fd : FuncData), K.In h ∧ (∀ (s : Shared) (u : Value), BindsTo s fd ⟨[u], []⟩ [("script", u)]) ∧ ∀ base : Heap, K.In base → base.Ns mainGlobals mg → FnOk l.prog w K mg base CX0 200 fa fd ["script"] (spLaw K)) :
    PySem.W.WalkO q loose XP YP l.row.toRowW d [] (fun f vs => PySem.call f vs) := by
  refine Att.attach_callB hn hdf fun w s₀ s₁ mg mb fa o pm cd doc a vs ns G Y ho hd hcd hmg hobj hints hlen hbits hg => ?_
  obtain ⟨K, fd, KX, hb, hF⟩ := F w mg fa _ Y G.T.g hmg
  exact law_call KX G.T.g G.T.b G.T.builtins G.T.nolimit hg hobj hints (Nat.le_trans hlen (by decide)) ⟨rfl, by decide, by decide⟩ hF hb (fun H hO hS => ⟨a, ns, rfl, hO, hS, hlen, hbits, fun _ => rfl⟩) fun _ _ _ z => z
end DL
namespace LW
open PySem L2 PySem.Spec PyProof.Rows DL
noncomputable def f_law_well : Fn := ⟨2, 6, (.seq (.set 2 (.o2 .add (.o2 .mul (.i 5) (.v 1)) (.i 3))) (.seq (.iff (.o2 .lt (.v 1) (.o1 .len (.v 0))) (.set 2 (.o2 .idx (.v 0) (.v 1))) .skip) (.seq (.iff (.o2 .eq (.o2 .mod (.v 2) (.i 2)) (.i 0)) (.ret (.lst (.consb (.o2 .fdiv (.v 2) (.i 2)) .nil))) .skip) (.seq (.set 3 (.o2 .mod (.o2 .add (.o2 .add (.o2 .mul (.v 2) (.i 30011)) (.o2 .mul (.i 977) (.v 1))) (.i 41)) (.i 2147483563))) (.seq (.set 4 (.i 0)) (.seq (.for (.nm 5) (.rng (.i 60)) (.seq (.set 3 (.o2 .mod (.o2 .add (.o2 .add (.o2 .add (.o2 .mul (.v 3) (.v 3)) (.o2 .mul (.i 50021) (.v 3))) (.o2 .mul (.i 19) (.v 5))) (.i 7)) (.i 2147483563))) (.seq (.set 4 (.o2 .add (.o2 .mul (.v 4) (.i 2147483563)) (.v 3))) (.seq (.box 4) .skip)))) (.ret (.lst (.consb (.v 4) .nil)))))))))⟩
noncomputable def f_law_sip : Fn := ⟨2, 3, (.seq (.set 2 (.o2 .mod (.o2 .idx (.v 0) (.i 0)) (.v 1))) (.seq (.seti (.v 0) (.i 0) (.o2 .fdiv (.o2 .idx (.v 0) (.i 0)) (.v 1))) (.retv 2)))⟩
noncomputable def f_law_mixed : Fn := ⟨2, 5, (.seq (.set 2 (.lrg (.v 1))) (.seq (.box 2) (.seq (.set 3 (.lst .nil)) (.seq (.whl (.o2 .ne (.v 2) (.lst .nil)) (.seq (.set 4 (.call 147 (.cons (.v 0) (.cons (.o1 .len (.v 2)) .nil)))) (.om .append 3 (.consb (.hm .popAt (.v 2) (.cons (.v 4) .nil)) .nil) none))) (.retv 3)))))⟩
noncomputable def f_law_tale : Fn := ⟨2, 14, (.seq (.set 2 (.o2 .add (.i 1) (.call 147 (.cons (.v 0) (.cons (.v 1) .nil))))) (.seq (.box 2) (.seq (.set 3 (.call 149 (.cons (.v 0) (.cons (.v 2) .nil)))) (.seq (.set 4 (.lst .nil)) (.seq (.for (.nm 5) (.rng (.o2 .add (.i 1) (.call 147 (.cons (.v 0) (.cons (.o2 .idx (.lst (.consb (.i 3) (.consb (.i 3) (.consb (.i 6) .nil)))) (.call 147 (.cons (.v 0) (.cons (.i 3) .nil)))) .nil))))) (.seq (.set 6 (.comp (.nm 7) (.v 7) (.itv 3) (.o2 .lt (.call 147 (.cons (.v 0) (.cons (.i 5) .nil))) (.i 2)))) (.om .append 4 (.consb (.o1 .tupleX (.stp (.v 6) (.o2 .sub (.i 1) (.o2 .mul (.i 2) (.o1 .int (.o2 .eq (.call 147 (.cons (.v 0) (.cons (.i 7) .nil))) (.i 0))))))) .nil) none))) (.seq (.set 8 .dctn) (.seq (.for (.nm 9) (.rng (.call 147 (.cons (.v 0) (.cons (.o2 .add (.o2 .mul (.i 2) (.v 2)) (.i 1)) .nil)))) (.seq (.set 7 (.call 147 (.cons (.v 0) (.cons (.v 2) .nil)))) (.seq (.box 7) (.seq (.set 5 (.call 147 (.cons (.v 0) (.cons (.o1 .len (.v 4)) .nil)))) (.seq (.box 5) (.seq (.set 6 (.o2 .add (.lst (.consb (.o1 .neg (.i 1)) .nil)) (.comp (.nm 10) (.v 10) (.ite (.o2 .idx (.v 4) (.v 5))) (.o2 .ne (.v 10) (.v 7))))) (.seq (.set 11 (.o2 .add (.lst (.consb (.o1 .neg (.i 1)) .nil)) (.comp (.nm 10) (.v 10) (.ite (.slc (.v 6) (.i 1) .n)) (.o2 .lt (.bm1 .index (.v 3) (.v 10)) (.bm1 .index (.v 3) (.v 7)))))) (.seti (.v 8) (.tup (.consb (.v 7) (.consb (.v 5) .nil))) (.o2 .idx (.lst (.consb (.o2 .idx (.v 11) (.o1 .neg (.i 1))) (.consb (.o2 .idx (.v 6) (.call 147 (.cons (.v 0) (.cons (.o1 .len (.v 6)) .nil)))) .nil))) (.o1 .int (.o2 .eq (.call 147 (.cons (.v 0) (.cons (.i 5) .nil))) (.i 0)))))))))))) (.seq (.set 12 .dctn) (.seq (.for (.nm 9) (.rng (.call 147 (.cons (.v 0) (.cons (.o2 .add (.v 2) (.i 1)) .nil)))) (.seq (.set 7 (.call 147 (.cons (.v 0) (.cons (.v 2) .nil)))) (.seq (.box 7) (.seq (.set 13 (.call 147 (.cons (.v 0) (.cons (.v 2) .nil)))) (.seq (.box 13) (.iff (.and (.o2 .ne (.v 7) (.v 13)) (.one (.or (.o2 .lt (.bm1 .index (.v 3) (.v 7)) (.bm1 .index (.v 3) (.v 13))) (.one (.o2 .eq (.call 147 (.cons (.v 0) (.cons (.i 6) .nil))) (.i 0)))))) (.seti (.v 12) (.tup (.consb (.v 7) (.consb (.v 13) .nil))) (.b true)) .skip)))))) (.ret (.tup (.consb (.v 2) (.consb (.o1 .tuple (.o1 .sortedDn (.v 12))) (.consb (.o1 .tuple (.v 4)) (.consb (.o1 .tuple (.o1 .sortedN (.lockEN (.comp (.nm 10) (.o2 .add (.v 10) (.tup (.consb (.o2 .idx (.v 8) (.v 10)) .nil))) (.itkn (.v 8)) (.b true))))) .nil)))))))))))))))⟩
noncomputable def f_next_writer : Fn := ⟨2, 3, (.seq (.set 2 (.i 0)) (.seq (.iff (.o2 .ne (.v 1) (.g 17)) (.set 2 (.o2 .add (.bm1 .indexT (.v 0) (.v 1)) (.i 1))) .skip) (.seq (.iff (.o2 .eq (.v 2) (.o1 .len (.v 0))) (.ret .n) .skip) (.ret (.o2 .idx (.v 0) (.v 2))))))⟩
noncomputable def f_musts : Fn := ⟨1, 13, (.seq (.setT [1, 2, 3, 4] (.v 0)) (.seq (.set 5 .dctn) (.seq (.for (.nm 6) (.itv 2) (.seti (.v 5) (.v 6) (.b true))) (.seq (.for (.nm 7) (.itv 3) (.for (.tp [6, 8]) (.zip (.itv 7) (.ite (.slc (.v 7) (.i 1) .n))) (.seti (.v 5) (.tup (.consb (.v 6) (.consb (.v 8) .nil))) (.b true)))) (.seq (.for (.tp [9, 10, 11]) (.itv 4) (.seq (.iff (.o2 .ne (.v 11) (.g 17)) (.seti (.v 5) (.tup (.consb (.v 11) (.consb (.v 9) .nil))) (.b true)) .skip) (.seq (.set 12 (.call 159 (.cons (.o2 .idx (.v 3) (.v 10)) (.cons (.v 11) .nil)))) (.seq (.box 12) (.iff (.and (.o2 .isnt (.v 12) .n) (.one (.o2 .ne (.v 12) (.v 9)))) (.seti (.v 5) (.tup (.consb (.v 9) (.consb (.v 12) .nil))) (.b true)) .skip))))) (.ret (.o1 .sortedDn (.v 5))))))))⟩
noncomputable def f_law_musts : Fn := ⟨1, 13, (.seq (.setT [1, 2, 3, 4] (.v 0)) (.seq (.set 5 (.o1 .list (.v 2))) (.seq (.for (.nm 6) (.itv 3) (.om .extend 5 (.cons (.comp (.nm 7) (.tup (.consb (.o2 .idx (.v 6) (.v 7)) (.consb (.o2 .idx (.v 6) (.o2 .add (.v 7) (.i 1))) .nil))) (.rng (.o2 .sub (.o1 .len (.v 6)) (.i 1))) (.b true)) .nil) none)) (.seq (.for (.tp [8, 9, 10]) (.itv 4) (.seq (.iff (.o2 .ge (.v 10) (.i 0)) (.om .append 5 (.consb (.tup (.consb (.v 10) (.consb (.v 8) .nil))) .nil) none) .skip) (.seq (.set 11 (.o1 .list (.o2 .idx (.v 3) (.v 9)))) (.seq (.iff (.o2 .ge (.v 10) (.i 0)) (.set 11 (.slc (.v 11) (.o2 .add (.bm1 .index (.v 11) (.v 10)) (.i 1)) .n)) .skip) (.om .extend 5 (.cons (.comp (.nm 12) (.tup (.consb (.v 8) (.consb (.v 12) .nil))) (.ite (.slc (.v 11) .n (.i 1))) (.o2 .ne (.v 12) (.v 8))) .nil) none))))) (.ret (.setP (.v 5)))))))⟩
noncomputable def f_is_tale_order : Fn := ⟨2, 7, (.seq (.iff (.o2 .ne (.o1 .sorted (.v 1)) (.lrg (.o2 .idx (.v 0) (.i 0)))) (.ret (.b false)) .skip) (.seq (.set 2 .dct) (.seq (.for (.tp [3, 4]) (.enu (.itv 1)) (.oseti 2 (.v 4) (.v 3))) (.ret (.o1 .all (.comp (.tp [5, 6]) (.o2 .lt (.o2 .idx (.v 2) (.v 5)) (.o2 .idx (.v 2) (.v 6))) (.ite (.call 160 (.cons (.v 0) .nil))) (.b true)))))))⟩
noncomputable def f_is_ring : Fn := ⟨2, 5, (.seq (.iff (.or (.o2 .eq (.v 1) (.lst .nil)) (.one (.o2 .ne (.slen (.v 1)) (.o1 .len (.v 1))))) (.ret (.b false)) .skip) (.seq (.set 2 (.call 160 (.cons (.v 0) .nil))) (.ret (.o1 .all (.comp (.tp [3, 4]) (.o2 .mem (.tup (.consb (.v 3) (.consb (.v 4) .nil))) (.v 2)) (.zip (.itv 1) (.ite (.o2 .add (.slc (.v 1) (.i 1) .n) (.slc (.v 1) .n (.i 1))))) (.b true))))))⟩
noncomputable def f_law_is_order_2 : Fn := ⟨2, 4, (.seq (.iff (.o2 .ne (.o1 .sorted (.v 1)) (.lrg (.o2 .idx (.v 0) (.i 0)))) (.ret (.b false)) .skip) (.ret (.o1 .all (.comp (.tp [2, 3]) (.o2 .lt (.bm1 .index (.v 1) (.v 2)) (.bm1 .index (.v 1) (.v 3))) (.ite (.call 161 (.cons (.v 0) .nil))) (.b true)))))⟩
noncomputable def f_law_is_ring : Fn := ⟨2, 4, (.seq (.set 2 (.call 161 (.cons (.v 0) .nil))) (.seq (.iff (.or (.o2 .lt (.o1 .len (.v 1)) (.i 2)) (.one (.o2 .ne (.slen (.v 1)) (.o1 .len (.v 1))))) (.ret (.b false)) .skip) (.ret (.o1 .all (.comp (.nm 3) (.o2 .mem (.tup (.consb (.o2 .idx (.v 1) (.o2 .sub (.v 3) (.i 1))) (.consb (.o2 .idx (.v 1) (.v 3)) .nil))) (.v 2)) (.rng (.o1 .len (.v 1))) (.b true))))))⟩
noncomputable def f_law_found : Fn := ⟨1, 9, (.seq (.set 1 (.call 161 (.cons (.v 0) .nil))) (.seq (.set 2 (.lst .nil)) (.seq (.box 2) (.seq (.for (.nm 3) (.rng (.o2 .idx (.v 0) (.i 0))) (.seq (.set 4 (.comp (.nm 5) (.v 5) (.rng (.o2 .idx (.v 0) (.i 0))) (.o2 .nmem (.v 5) (.v 2)))) (.seq (.set 6 (.comp (.nm 5) (.v 5) (.itv 4) (.o2 .eq (.comp (.nm 7) (.v 7) (.itv 1) (.and (.o2 .eq (.o2 .idx (.v 7) (.i 1)) (.v 5)) (.one (.o2 .mem (.o2 .idx (.v 7) (.i 0)) (.v 4))))) (.lst .nil)))) (.expr (.hm .extend (.v 2) (.cons (.slc (.v 6) .n (.i 1)) .nil)))))) (.seq (.set 4 (.comp (.nm 5) (.v 5) (.rng (.o2 .idx (.v 0) (.i 0))) (.o2 .nmem (.v 5) (.v 2)))) (.seq (.set 8 (.slc (.v 4) .n (.i 1))) (.seq (.whl (.and (.o2 .ne (.v 8) (.lst .nil)) (.one (.o2 .nmem (.o2 .idx (.v 8) (.o1 .neg (.i 1))) (.slc (.v 8) .n (.o1 .neg (.i 1)))))) (.om .append 8 (.consb (.o2 .idx (.comp (.nm 7) (.o2 .idx (.v 7) (.i 0)) (.itv 1) (.and (.o2 .eq (.o2 .idx (.v 7) (.i 1)) (.o2 .idx (.v 8) (.o1 .neg (.i 1)))) (.one (.o2 .mem (.o2 .idx (.v 7) (.i 0)) (.v 4))))) (.i 0)) .nil) none)) (.seq (.iff (.o2 .eq (.v 8) (.lst .nil)) (.ret (.tup (.consb (.v 2) (.consb (.lst .nil) .nil)))) .skip) (.ret (.tup (.consb (.o2 .add (.v 2) (.v 4)) (.consb (.slr (.v 8) (.bm1 .index (.v 8) (.o2 .idx (.v 8) (.o1 .neg (.i 1)))) (.o1 .neg (.i 1))) .nil))))))))))))⟩
noncomputable def f_law_bent_7 : Fn := ⟨3, 6, (.seq (.set 3 (.call 147 (.cons (.v 0) (.cons (.o2 .add (.o1 .len (.v 2)) (.i 1)) .nil)))) (.seq (.set 4 (.o2 .idx (.lst (.consb (.o2 .idx (.v 1) (.i 0)) (.consb (.o1 .neg (.i 1)) (.consb (.o2 .pow (.i 10) (.i 20)) (.consb (.call 147 (.cons (.v 0) (.cons (.o2 .idx (.v 1) (.i 0)) .nil))) .nil))))) (.call 147 (.cons (.v 0) (.cons (.i 4) .nil))))) (.seq (.box 4) (.seq (.set 5 (.lst (.consb (.v 2) (.consb (.rev (.v 2)) (.consb (.o2 .add (.slc (.v 2) (.v 3) .n) (.slc (.v 2) .n (.v 3))) (.consb (.o2 .add (.slc (.v 2) .n (.v 3)) (.slc (.v 2) (.o2 .add (.v 3) (.i 1)) .n)) (.consb (.o2 .add (.o2 .add (.slc (.v 2) .n (.v 3)) (.lst (.consb (.v 4) .nil))) (.slc (.v 2) (.v 3) .n)) .nil))))))) (.seq (.set 5 (.o2 .add (.v 5) (.lst (.consb (.o2 .add (.v 2) (.slc (.v 2) .n (.i 1))) (.consb (.o2 .add (.o2 .add (.slc (.v 2) .n (.v 3)) (.lst (.consb (.v 4) .nil))) (.slc (.v 2) (.o2 .add (.v 3) (.i 1)) .n)) (.consb (.lst .nil) (.consb (.slc (.v 2) .n (.v 3)) .nil))))))) (.ret (.o2 .idx (.v 5) (.call 147 (.cons (.v 0) (.cons (.i 9) .nil))))))))))⟩
noncomputable def f_law_29 : Fn := ⟨1, 12, (.seq (.for (.nm 1) (.rng (.o2 .max (.i 3) (.o2 .min (.i 10) (.o1 .len (.v 0))))) (.seq (.set 2 (.call 146 (.cons (.v 0) (.cons (.v 1) .nil)))) (.seq (.box 2) (.seq (.set 3 (.call 150 (.cons (.v 2) (.cons (.i 7) .nil)))) (.seq (.setT [4, 5] (.call 171 (.cons (.v 3) .nil))) (.seq (.set 6 (.lst (.consb (.v 4) (.consb (.v 5) (.consb (.call 149 (.cons (.v 2) (.cons (.o2 .idx (.v 3) (.i 0)) .nil))) (.consb (.lst (.consb (.i 0) .nil)) (.consb (.lst .nil) .nil))))))) (.seq (.for (.nm 7) (.rng (.i 4)) (.om .append 6 (.consb (.call 172 (.cons (.v 2) (.cons (.v 3) (.cons (.o2 .idx (.lst (.consb (.v 4) (.consb (.v 5) .nil))) (.o2 .mod (.v 7) (.i 2))) .nil)))) .nil) none)) (.for (.nm 8) (.itv 6) (.seq (.set 9 (.o1 .list (.v 8))) (.seq (.set 10 (.lst (.consb (.call 167 (.cons (.v 3) (.cons (.v 9) .nil))) (.consb (.call 168 (.cons (.v 3) (.cons (.v 9) .nil))) .nil)))) (.seq (.iff (.or (.not (.o1 .all (.comp (.nm 11) (.o1 (.isi .bool) (.v 11)) (.itv 10) (.b true)))) (.one (.o2 .ne (.v 9) (.v 8)))) (.ret (.b false)) .skip) (.iff (.o2 .ne (.v 10) (.lst (.consb (.call 169 (.cons (.v 3) (.cons (.v 8) .nil))) (.consb (.call 170 (.cons (.v 3) (.cons (.v 8) .nil))) .nil)))) (.ret (.b false)) .skip)))))))))))) (.ret (.b true)))⟩
end LW
namespace LU
open PySem L2 PySem.Spec PyProof.Rows DL LW
theorem cut_map {α β : Type} (f : α → β) (xs : List α) (lo hi : Option Int) : cutI (xs.map f) lo hi = (cutI xs lo hi).map f := by
  unfold cutI
  simp [List.map_drop, List.map_take]
theorem forL_inv {tg : Tg} {ok : SK2} {body : SK2 → SK2} {nx : SK2} (I : SK2) (hok : ∀ σ S, I σ S → ok σ S) (hend : ∀ σ S, I σ S → nx σ S) : ∀ (xs : List D), (∀ x ∈ xs, ∀ (k : SK2) σ S, (∀ σ S, I σ S → k σ S) → I σ S → bindT tg x σ fun σ' => body k σ' S) → ∀ σ S, I σ S → forL tg ok body nx xs σ S
  | [], _, σ, S, i => ⟨hok _ _ i, hend _ _ i⟩
  | x :: xs, h, σ, S, i => ⟨hok _ _ i, h x List.mem_cons_self _ σ S (forL_inv I hok hend xs fun y hy => h y (List.mem_cons_of_mem _ hy)) i⟩
theorem whl_inv {t : Sl → Hs → (Bool → Hs → Prop) → Prop} {body : (Sl → Hs → Prop) → Sl → Hs → Prop} {nx : Sl → Hs → Prop} (I : Nat → Sl → Hs → Prop)
    (step : ∀ m σ S (k : SK2), (∀ m' σ' S', m' < m → I m' σ' S' → k σ' S') → I m σ S → t σ S fun b S1 => Br b (body k σ S1) (nx σ S1)) {m : Nat} {σ : Sl} {S : Hs} (i : I m σ S) : ∃ n, whlN t body nx n σ S := by
  have key : ∀ n m σ S, m < n → I m σ S → whlN t body nx n σ S := by
    intro n
    induction n with
    | zero => intro m σ S h; omega
    | succ n ih => exact fun m σ S h i => step m σ S _ (fun m' σ' S' hm i' => ih m' σ' S' (by omega) i') i
  exact ⟨m + 1, key _ _ _ _ (Nat.lt_succ_self _) i⟩
theorem Br.tt {A B : Prop} (a : A) : Br true A B := ⟨fun _ => a, fun e => by cases e⟩
theorem Br.ff {A B : Prop} (b : B) : Br false A B := ⟨fun e => (by cases e), fun _ => b⟩
theorem Br.of {k : Bool} {A B : Prop} (b : Bool) (e : k = b) (h : if b = true then A else B) : Br k A B := by
  subst e
  cases k
  · exact Br.ff (by simpa using h)
  · exact Br.tt (by simpa using h)
theorem forL_map {α : Type} {tg : Tg} {ok : SK2} {body : SK2 → SK2} {nx : SK2} (f : α → D) {xs : List α} (I : List α → SK2) (hok : ∀ l σ S, I l σ S → ok σ S) (hend : ∀ σ S, I [] σ S → nx σ S)
    (step : ∀ x rest, x ∈ xs → (∃ pre, xs = pre ++ x :: rest) → ∀ (k : SK2) σ S, (∀ σ S, I rest σ S → k σ S) → I (x :: rest) σ S → bindT tg (f x) σ fun σ' => body k σ' S) : ∀ σ S, I xs σ S → forL tg ok body nx (xs.map f) σ S := by
  have key : ∀ post pre, xs = pre ++ post → ∀ σ S, I post σ S → forL tg ok body nx (post.map f) σ S := by
    intro post
    induction post with
    | nil => intro pre e σ S i; exact ⟨hok _ _ _ i, hend _ _ i⟩
    | cons x post ih => exact fun pre e σ S i => ⟨hok _ _ _ i, step x post (by rw [e]; simp) ⟨pre, e⟩ _ σ S (fun σ S => ih (pre ++ [x]) (by rw [e]; simp) σ S) i⟩
  exact key xs [] rfl
theorem pls_ints (n : Nat) (l : List Int) : pls n (l.map D.int) = true := by
  induction l with
  | nil => simp [pls]
  | cons x l ih => simp only [List.map_cons, pls, ih, Bool.and_true]; cases n <;> rfl
theorem any_ints (l : List Int) (x : Int) : ((l.map D.int).any fun y => eqB y (.int x)) = decide (x ∈ l) := by
  induction l with
  | nil => rfl
  | cons y l ih =>
    rw [List.map_cons, List.any_cons, ih]
    show (decide (y = x) || decide (x ∈ l)) = _
    by_cases e : y = x
    · subst e; simp
    · have : ¬ x = y := fun q => e q.symm
      simp [e, this]
theorem forL_enum {α : Type} {tg : Tg} {ok : SK2} {body : SK2 → SK2} {nx : SK2} (f : α → D) {xs : List α} (I : Nat → List α → SK2) (hok : ∀ n l σ S, I n l σ S → ok σ S) (hend : ∀ n σ S, I n [] σ S → nx σ S)
    (step : ∀ n x rest, x ∈ xs → ∀ (k : SK2) σ S, (∀ σ S, I (n + 1) rest σ S → k σ S) → I n (x :: rest) σ S → bindT tg (.tup [.int (n : Int), f x]) σ fun σ' => body k σ' S) : ∀ σ S, I 0 xs σ S → forL tg ok body nx (enumD 0 (xs.map f)) σ S := by
  have key : ∀ (post : List α) n, (∀ x ∈ post, x ∈ xs) → ∀ σ S, I n post σ S → forL tg ok body nx (enumD n (post.map f)) σ S := by
    intro post
    induction post with
    | nil => intro n _ σ S i; exact ⟨hok _ _ _ _ i, hend _ _ _ i⟩
    | cons x post ih => exact fun n h σ S i => ⟨hok _ _ _ _ i, step n x post (h x List.mem_cons_self) _ σ S (fun σ S => ih (n + 1) (fun y hy => h y (List.mem_cons_of_mem _ hy)) σ S) i⟩
  exact key xs 0 fun x h => h
theorem compL_fm {α : Type} {tg : Tg} {ok : Sl → Hs → Prop} {elt : Sl → Hs → (D → Hs → Prop) → Prop} {tst : Sl → Hs → (Bool → Hs → Prop) → Prop} {σ : Sl} {K : List D → Hs → Prop} (f : α → D) (g : α → Option D) {S : Hs} (hok : ok σ S) :
    ∀ (xs : List α) (acc : List D), (∀ x ∈ xs, ∀ (P1 : D → Hs → Prop) (P2 : Hs → Prop), (∀ y, g x = some y → P1 y S) → (g x = none → P2 S) → bindT tg (f x) σ fun σ' => tst σ' S fun b S1 => Br b (elt σ' S1 P1) (P2 S1)) → acc.length + xs.length ≤ sizeLine → K (acc ++ xs.filterMap g) S → compL tg ok elt tst σ (xs.map f) acc S K
  | [], acc, _, _, k => ⟨hok, by simpa using k⟩
  | x :: xs, acc, h, hl, k => by
    have hl' : acc.length + xs.length + 1 ≤ sizeLine := by simpa [Nat.add_assoc] using hl
    refine ⟨hok, h x List.mem_cons_self _ _ (fun y e => ⟨by omega, ?_⟩) (fun e => ?_)⟩
    · refine compL_fm f g hok xs (acc ++ [y]) (fun z hz => h z (List.mem_cons_of_mem _ hz)) (by simp; omega) ?_
      rw [List.filterMap_cons, e] at k
      simpa using k
    · refine compL_fm f g hok xs acc (fun z hz => h z (List.mem_cons_of_mem _ hz)) (by omega) ?_
      rw [List.filterMap_cons, e] at k
      exact k
theorem compL_fm' {α : Type} {tg : Tg} {ok : Sl → Hs → Prop} {elt : Sl → Hs → (D → Hs → Prop) → Prop} {tst : Sl → Hs → (Bool → Hs → Prop) → Prop} {σ : Sl} {K : List D → Hs → Prop} (f : α → D) (g : α → Option D) {S : Hs} {items : List D} (xs : List α) (e : items = xs.map f) (hok : ok σ S)
    (h : ∀ x ∈ xs, ∀ (P1 : D → Hs → Prop) (P2 : Hs → Prop), (∀ y, g x = some y → P1 y S) → (g x = none → P2 S) → bindT tg (f x) σ fun σ' => tst σ' S fun b S1 => Br b (elt σ' S1 P1) (P2 S1)) (hl : xs.length ≤ sizeLine) (k : K (xs.filterMap g) S) : compL tg ok elt tst σ items [] S K := by
  subst e
  exact compL_fm f g hok xs [] h (by simpa using hl) (by simpa using k)
theorem one1_i {P : VK2} {x : Vx} {S : Hs} (h : P x S) : one1 P [x] S := h
theorem map_eraseIdx {α β : Type} (f : α → β) : ∀ (l : List α) (n : Nat), (l.map f).eraseIdx n = (l.eraseIdx n).map f
  | [], _ => by simp
  | x :: l, 0 => by simp
  | x :: l, n + 1 => by simp [map_eraseIdx f l n]
theorem erase_perm {α : Type} : ∀ {l : List α} {i : Nat} (h : i < l.length), (l[i] :: l.eraseIdx i).Perm l
  | [], i, h => absurd h (Nat.not_lt_zero _)
  | x :: l, 0, _ => .refl _
  | x :: l, i + 1, h => (List.Perm.swap _ _ _).trans (.cons x (erase_perm (l := l) (i := i) (Nat.lt_of_succ_lt_succ h)))
theorem getI_last (ds : List D) (x : D) : getI (ds ++ [x]) (-1) = some x := by
  show (if 0 < (ds ++ [x]).length then (ds ++ [x])[(ds ++ [x]).length - (0 + 1)]? else none) = some x
  simp
theorem rngD_ints (n : Nat) : rngD 0 n = ((List.range n).map fun (i : Nat) => (i : Int)).map D.int := by
  have key : ∀ (m : Nat) (lo : Int), rngD lo m = (List.range m).map fun (i : Nat) => D.int (lo + (i : Int)) := by
    intro m
    induction m with
    | zero => intro lo; rfl
    | succ m ih =>
      intro lo
      rw [List.range_succ_eq_map]
      simp only [List.map_cons, List.map_map]
      show D.int lo :: rngD (lo + 1) m = _
      rw [ih, show lo + ((0 : Nat) : Int) = lo by simp]
      congr 1
      refine List.map_congr_left fun i _ => ?_
      show D.int _ = D.int _
      congr 1
      simp; omega
  rw [key, List.map_map]
  refine List.map_congr_left fun i _ => ?_
  show D.int _ = D.int _
  simp
theorem fm_filter (p : Int → Bool) : ∀ l : List Int, (l.filterMap fun a => if p a = true then some (D.int a) else none) = (l.filter p).map D.int
  | [] => rfl
  | x :: l => by
    have ih := fm_filter p l
    rw [List.filterMap_cons, List.filter_cons]
    by_cases h : p x = true
    · rw [if_pos h, if_pos h, ih]; rfl
    · rw [if_neg h, if_neg h, ih]
noncomputable def encI {α : Type} (f : α → D) (kvs : List (Int × α)) : List (D × D) := kvs.map fun p => (.int p.1, f p.2)
noncomputable def pget {α : Type} : List (Int × α) → Int → Option α
  | [], _ => none
  | (k, v) :: r, x => if k = x then some v else pget r x
noncomputable def pput {α : Type} (kvs : List (Int × α)) (x : Int) (y : α) : List (Int × α) := if (pget kvs x).isSome then kvs.map fun p => if p.1 = x then (p.1, y) else p else kvs ++ [(x, y)]
theorem dget_enc {α : Type} {f : α → D} : ∀ (kvs : List (Int × α)) (x : Int), dget (encI f kvs) (.int x) = (pget kvs x).map f
  | [], x => rfl
  | (k, v) :: r, x => by
    show (match eqB (.int k) (.int x) with | true => some (f v) | false => dget (encI f r) (.int x)) = _
    have e : eqB (.int k) (.int x) = decide (k = x) := rfl
    rw [e]
    by_cases h : k = x
    · rw [decide_eq_true h]; simp [pget, h]
    · rw [decide_eq_false h, dget_enc r x]; simp [pget, h]
theorem dhas_enc {α : Type} {f : α → D} (kvs : List (Int × α)) (x : Int) : dhas (encI f kvs) (.int x) = (pget kvs x).isSome := by
  unfold dhas
  rw [dget_enc]
  cases pget kvs x <;> rfl
theorem dput_enc {α : Type} {f : α → D} (kvs : List (Int × α)) (x : Int) (y : α) : dput (encI f kvs) (.int x) (f y) = encI f (pput kvs x y) := by
  unfold dput pput
  rw [dhas_enc]
  cases h : (pget kvs x).isSome with
  | true =>
    simp only [if_true]
    show (kvs.map _).map _ = (kvs.map _).map _
    rw [List.map_map, List.map_map]
    refine List.map_congr_left fun p _ => ?_
    show (match eqB (.int p.1) (.int x) with | true => (D.int p.1, f y) | false => (D.int p.1, f p.2)) = (D.int (if p.1 = x then (p.1, y) else p).1, f (if p.1 = x then (p.1, y) else p).2)
    have e : eqB (.int p.1) (.int x) = decide (p.1 = x) := rfl
    rw [e]
    by_cases h : p.1 = x
    · rw [decide_eq_true h, if_pos h]
    · rw [decide_eq_false h, if_neg h]
  | false => simp [encI]
theorem pget_put {α : Type} (kvs : List (Int × α)) (x z : Int) (y : α) : pget (pput kvs x y) z = if x = z then some y else pget kvs z := by
  unfold pput
  split
  · rename_i h
    have key : ∀ (l : List (Int × α)), pget (l.map fun p => if p.1 = x then (p.1, y) else p) z = if x = z then (if (pget l x).isSome then some y else none) else pget l z := by
      intro l
      induction l with
      | nil => simp [pget]
      | cons p r ih =>
        obtain ⟨k, v⟩ := p
        simp only [List.map_cons]
        by_cases e : k = x
        · subst e
          by_cases e2 : k = z
          · subst e2; simp [pget]
          · simp [pget, e2, ih]
        · by_cases e2 : k = z
          · subst e2
            have : ¬ x = k := fun q => e q.symm
            simp [pget, e, this]
          · by_cases e3 : x = z
            · subst e3; simp [pget, e, e2, ih]
            · simp [pget, e, e2, e3, ih]
    rw [key, h]
    by_cases e3 : x = z <;> simp [e3]
  · rename_i h
    have h : pget kvs x = none := by simpa using h
    have key : ∀ (l : List (Int × α)), pget l x = none → pget (l ++ [(x, y)]) z = if x = z then some y else pget l z := by
      intro l
      induction l with
      | nil => intro _; simp [pget]
      | cons p r ih =>
        obtain ⟨k, v⟩ := p
        intro hl
        unfold pget at hl
        split at hl
        · cases hl
        · rename_i hk
          simp only [List.cons_append, pget]
          rw [ih hl]
          by_cases e2 : k = z
          · subst e2
            have : ¬ x = k := fun q => hk q.symm
            simp [this]
          · by_cases e3 : x = z
            · subst e3; simp [hk]
            · simp [e2, e3]
    exact key kvs h
noncomputable def Fr (p : Addr) (S S' : Hs) : Prop := ∀ b o, S b = some o → b ≠ p → S' b = some o
theorem Fr.refl {p : Addr} {S : Hs} : Fr p S S := fun _ _ h _ => h
theorem Fr.trans {p : Addr} {A B C : Hs} (h : Fr p A B) (k : Fr p B C) : Fr p A C := fun b o e n => k b o (h b o e n) n
theorem Fr.pen {p : Addr} {S : Hs} {o : O} : Fr p S (su S p o) := fun b x e n => by rw [su_ne n]; exact e
theorem Fr.new {p a : Addr} {S S' : Hs} {o : O} (h : Fr p S S') (n : S a = none) : Fr p S (su S' a o) := fun b x e z => by
  rw [su_ne (fun q => by subst q; rw [n] at e; cases e)]; exact h b x e z
theorem su_su {S : Hs} {a : Addr} {o u : O} : su (su S a o) a u = su S a u := by
  funext b; unfold su; split <;> rfl
theorem eqBs_ints : ∀ (l m : List Int), eqBs (l.map D.int) (m.map D.int) = decide (l = m)
  | [], [] => rfl
  | [], _ :: _ => rfl
  | _ :: _, [] => rfl
  | x :: l, y :: m => by
    show (decide (x = y) && eqBs (l.map D.int) (m.map D.int)) = _
    rw [eqBs_ints l m]
    by_cases h : x = y
    · subst h; simp
    · simp [h]
theorem pput_len {α : Type} {kvs : List (Int × α)} {x : Int} {y : α} : (pput kvs x y).length ≤ kvs.length + 1 := by
  unfold pput
  split <;> simp
theorem su_id {S : Hs} {a : Addr} {o : O} (h : S a = some o) : su S a o = S := by
  funext b; unfold su; split
  · rename_i e; rw [e, h]
  · rfl
theorem wpg {T : Tbl} {c : Nat → List Vx → Hs → VK2 → Prop} {k : Nat} {σ : Sl} {S : Hs} {Q : LK2} {x : Vx} (h : T.glob k = x) (q : Q [x] S) : wpE T c (.g k) σ S Q := by
  show Q [T.glob k] S
  rw [h]; exact q
theorem forL_map' {α : Type} {tg : Tg} {ok : SK2} {body : SK2 → SK2} {nx : SK2} {items : List D} (f : α → D) (xs : List α) (e : items = xs.map f) (I : List α → SK2) (hok : ∀ l σ S, I l σ S → ok σ S) (hend : ∀ σ S, I [] σ S → nx σ S)
    (step : ∀ x rest, x ∈ xs → (∃ pre, xs = pre ++ x :: rest) → ∀ (k : SK2) σ S, (∀ σ S, I rest σ S → k σ S) → I (x :: rest) σ S → bindT tg (f x) σ fun σ' => body k σ' S) (σ : Sl) (S : Hs) (i : I xs σ S) : forL tg ok body nx items σ S := by
  subst e
  exact forL_map f I hok hend step σ S i
theorem forL_enum' {α : Type} {tg : Tg} {ok : SK2} {body : SK2 → SK2} {nx : SK2} {items : List D} (f : α → D) (xs : List α) (e : items = xs.map f) (I : Nat → List α → SK2) (hok : ∀ n l σ S, I n l σ S → ok σ S) (hend : ∀ n σ S, I n [] σ S → nx σ S)
    (step : ∀ n x rest, x ∈ xs → ∀ (k : SK2) σ S, (∀ σ S, I (n + 1) rest σ S → k σ S) → I n (x :: rest) σ S → bindT tg (.tup [.int (n : Int), f x]) σ fun σ' => body k σ' S) (σ : Sl) (S : Hs) (i : I 0 xs σ S) : forL tg ok body nx (enumD 0 items) σ S := by
  subst e
  exact forL_enum f I hok hend step σ S i
theorem nodup_le : ∀ (n : Nat) (l : List Int), l.Nodup → (∀ x ∈ l, 0 ≤ x ∧ x < (n : Int)) → l.length ≤ n
  | 0, [], _, _ => Nat.le_refl _
  | 0, x :: l, _, h => by have := h x List.mem_cons_self; omega
  | n + 1, l, hd, h => by
    have h1 : (l.filter fun x => x ≠ (n : Int)).length ≤ n := nodup_le n _ (hd.filter _) fun x hx => by
      have h2 := List.mem_filter.mp hx
      have h3 := h x h2.1
      have h4 : x ≠ (n : Int) := by simpa using h2.2
      omega
    have h5 : ∀ l : List Int, l.Nodup → l.length ≤ (l.filter fun x => x ≠ (n : Int)).length + 1 := by
      intro l
      induction l with
      | nil => intro _; simp
      | cons x l ih =>
        intro hd
        rw [List.nodup_cons] at hd
        by_cases e : x = (n : Int)
        · have : l.filter (fun x => x ≠ (n : Int)) = l := List.filter_eq_self.mpr fun y hy => by
            have : y ≠ (n : Int) := fun q => hd.1 (by rw [e, ← q]; exact hy)
            simpa using this
          rw [List.filter_cons, if_neg (by simp [e]), this]; simp
        · have := ih hd.2
          rw [List.filter_cons, if_pos (by simp [e])]; rw [List.length_cons, List.length_cons]; omega
    have := h5 l hd
    omega
theorem isS {T : Tbl} {c : Nat → List Vx → Hs → VK2 → Prop} {r : R} {σ : Sl} {S : Hs} {nx bk ct : SK2} {rt : VK2} (h : DL.wpS T c r σ S nx rt bk ct) : DL.wpS T c r σ S nx rt bk ct := h
theorem storD {x : D} {P : Prop} (h : P) : stor (.d x) P := h
theorem storV {x : List D} {P : Prop} (h : P) : stor (.vl x) P := h
theorem storVd {x : List (D × D)} {P : Prop} (h : P) : stor (.vd x) P := h
theorem bxD {x : D} {S : Hs} {K : D → Hs → Prop} (h : K x S) : bx (.d x) S K := h
theorem idx_any {ds : List D} {i : Int} {P : D → Prop} (h0 : 0 ≤ i) (h1 : i < ds.length) (h : ∀ y ∈ ds, P y) : ∃ y, getI ds i = some y ∧ P y := by
  obtain ⟨n, rfl⟩ := Int.eq_ofNat_of_zero_le h0
  have hn : n < ds.length := by omega
  exact ⟨ds[n], List.getElem?_eq_getElem hn, h _ (List.getElem_mem hn)⟩
theorem idx_ints {l : List Int} {i : Int} {P : D → Prop} (h0 : 0 ≤ i) (h1 : i < l.length) (h : ∀ y ∈ l, P (.int y)) : ∃ y, getI (l.map D.int) i = some y ∧ P y :=
  idx_any h0 (by simpa using h1) fun y hy => by
    obtain ⟨z, hz, rfl⟩ := List.mem_map.mp hy
    exact h z hz
theorem sip_ok {T : Tbl} (hT : T.fn 147 = some f_law_sip) (n : Nat) {S : Hs} {p : Addr} {v m : Int} {Q : VK2} (hw : S p = some (.lst [.int v])) (m0 : 0 < m) (m1 : m ≤ 8000) (w : ∀ d v' : Int, 0 ≤ d → d < m → Q (.d (.int d)) (su S p (.lst [.int v']))) :
    cal T (n + 1) 147 [.d (.ref p), .d (.int m)] S Q := by
  refine ⟨_, hT, rfl, rfl, ?_⟩
  have hl : m.natAbs.log2 < 9000 := Nat.lt_of_le_of_lt (Nat.log2_le_self _) (by omega)
  refine ⟨_, rfl, ⟨_, hw, ⟨_, rfl, ⟨_, rfl, ⟨m0, ?_⟩⟩⟩⟩⟩
  refine ⟨_, rfl, ⟨_, hw, ⟨_, rfl, ⟨_, rfl, ⟨⟨m0, hl⟩, ?_⟩⟩⟩⟩⟩
  refine ⟨_, rfl, ⟨_, _, _, rfl, hw, rfl, ⟨Nat.le_of_ble_eq_true rfl, ⟨_, rfl, ?_⟩⟩⟩⟩
  exact ⟨_, rfl, w _ _ (Int.emod_nonneg _ (by omega)) (Int.emod_lt_of_pos _ m0)⟩
theorem well_ok {T : Tbl} (hT : T.fn 146 = some f_law_well) (n : Nat) {S : Hs} {ns : List Int} {k : Int} {Q : VK2} (k0 : 0 ≤ k) (k1 : k ≤ 1000) (w : ∀ v : Int, Q (.vl [.int v]) S) :
    cal T (n + 1) 146 [.fz (ns.map D.int), .d (.int k)] S Q := by
  refine ⟨_, hT, rfl, rfl, ?_⟩
  generalize cal T n = c
  have hk : -(2 ^ 64) < k ∧ k < 2 ^ 64 := ⟨by omega, by omega⟩
  refine ⟨_, rfl, .inl (.inr hk), ?_⟩
  refine ⟨_, rfl, ⟨_, rfl, ⟨_, rfl, Br.mk (fun hb => ?_) (fun _ => ?_)⟩⟩⟩
  · have hb : k < ((ns.map D.int).length : Int) := of_decide_eq_true hb
    obtain ⟨y, hy, z, rfl⟩ : ∃ y, getI (ns.map D.int) k = some y ∧ ∃ z, y = .int z := idx_ints k0 (by simpa using hb) fun y _ => ⟨y, rfl⟩
    refine ⟨_, rfl, ⟨_, rfl, ⟨_, hy, ?_⟩⟩⟩
    refine ⟨_, rfl, by decide, ⟨rfl, rfl, Br.mk (fun _ => ?_) (fun _ => ?_)⟩⟩
    · exact ⟨_, rfl, ⟨⟨by decide, by decide⟩, ⟨_, rfl, Nat.le_of_ble_eq_true rfl, w _⟩⟩⟩
    · refine ⟨_, rfl, .inl (.inr (by decide)), ⟨_, rfl, .inl (.inl (by decide)), by decide, ?_⟩⟩
      refine ⟨_, rfl, by decide, by decide, ?_⟩
      refine forL_inv (fun σ S' => ∃ (a b : Int) (s0 s1 s2 s5 : Option Vx), σ = [s0, s1, s2, some (.d (.int a)), some (.d (.int b)), s5] ∧ 0 ≤ a ∧ a < 2147483563 ∧ S' = S) (fun _ _ _ => trivial) ?_ _ ?_ _ _ ⟨_, _, _, _, _, _, rfl, Int.emod_nonneg _ (by decide), Int.emod_lt_of_pos _ (by decide), rfl⟩
      · rintro σ S' ⟨a, b, s0, s1, s2, s5, rfl, a0, a1, rfl⟩
        exact ⟨_, rfl, ⟨_, rfl, Nat.le_of_ble_eq_true rfl, w _⟩⟩
      · rintro x hx kk σ S' hk ⟨a, b, s0, s1, s2, s5, rfl, a0, a1, rfl⟩
        have ha : -(2 ^ 64) < a ∧ a < 2 ^ 64 := ⟨by omega, by omega⟩
        have hx : ∃ i : Int, x = .int i := by
          rw [rngD_ints] at hx
          obtain ⟨i, _, rfl⟩ := List.mem_map.mp hx
          exact ⟨i, rfl⟩
        obtain ⟨i, rfl⟩ := hx
        refine ⟨_, rfl, ⟨_, rfl, .inl (.inl ha), ⟨_, rfl, .inl (.inl (by decide)), ⟨_, rfl, .inl (.inl (by decide)), by decide, ?_⟩⟩⟩⟩
        refine ⟨_, rfl, .inl (.inr (by decide)), ⟨_, rfl, ⟨_, rfl, ?_⟩⟩⟩
        exact hk _ _ ⟨_, _, _, _, _, _, rfl, Int.emod_nonneg _ (by decide), Int.emod_lt_of_pos _ (by decide), rfl⟩
  · refine ⟨_, rfl, by decide, ⟨rfl, rfl, Br.mk (fun _ => ?_) (fun _ => ?_)⟩⟩
    · exact ⟨_, rfl, ⟨⟨by decide, by decide⟩, ⟨_, rfl, Nat.le_of_ble_eq_true rfl, w _⟩⟩⟩
    · refine ⟨_, rfl, .inl (.inr (by decide)), ⟨_, rfl, .inl (.inl (by decide)), by decide, ?_⟩⟩
      refine ⟨_, rfl, by decide, by decide, ?_⟩
      refine forL_inv (fun σ S' => ∃ (a b : Int) (s0 s1 s2 s5 : Option Vx), σ = [s0, s1, s2, some (.d (.int a)), some (.d (.int b)), s5] ∧ 0 ≤ a ∧ a < 2147483563 ∧ S' = S) (fun _ _ _ => trivial) ?_ _ ?_ _ _ ⟨_, _, _, _, _, _, rfl, Int.emod_nonneg _ (by decide), Int.emod_lt_of_pos _ (by decide), rfl⟩
      · rintro σ S' ⟨a, b, s0, s1, s2, s5, rfl, a0, a1, rfl⟩
        exact ⟨_, rfl, ⟨_, rfl, Nat.le_of_ble_eq_true rfl, w _⟩⟩
      · rintro x hx kk σ S' hk ⟨a, b, s0, s1, s2, s5, rfl, a0, a1, rfl⟩
        have ha : -(2 ^ 64) < a ∧ a < 2 ^ 64 := ⟨by omega, by omega⟩
        have hx : ∃ i : Int, x = .int i := by
          rw [rngD_ints] at hx
          obtain ⟨i, _, rfl⟩ := List.mem_map.mp hx
          exact ⟨i, rfl⟩
        obtain ⟨i, rfl⟩ := hx
        refine ⟨_, rfl, ⟨_, rfl, .inl (.inl ha), ⟨_, rfl, .inl (.inl (by decide)), ⟨_, rfl, .inl (.inl (by decide)), by decide, ?_⟩⟩⟩⟩
        refine ⟨_, rfl, .inl (.inr (by decide)), ⟨_, rfl, ⟨_, rfl, ?_⟩⟩⟩
        exact hk _ _ ⟨_, _, _, _, _, _, rfl, Int.emod_nonneg _ (by decide), Int.emod_lt_of_pos _ (by decide), rfl⟩
noncomputable def upTo (m : Int) : List Int := (List.range m.toNat).map fun (i : Nat) => (i : Int)
theorem upTo_nodup (m : Int) : (upTo m).Nodup := List.pairwise_map.mpr (List.nodup_range.imp fun h e => h (Int.ofNat.inj e))
theorem upTo_mem {m x : Int} : x ∈ upTo m ↔ 0 ≤ x ∧ x < m := by
  unfold upTo
  rw [List.mem_map]
  constructor
  · rintro ⟨i, hi, rfl⟩
    rw [List.mem_range] at hi
    omega
  · rintro ⟨h0, h1⟩
    exact ⟨x.toNat, List.mem_range.mpr (by omega), by omega⟩
theorem upTo_len (m : Int) : (upTo m).length = m.toNat := by simp [upTo]
theorem mixed_ok {T : Tbl} (h7 : T.fn 147 = some f_law_sip) (hT : T.fn 149 = some f_law_mixed) (n : Nat) {S : Hs} {p : Addr} {v m : Int} {Q : VK2} (hw : S p = some (.lst [.int v])) (m0 : 0 ≤ m) (m1 : m ≤ 8000)
    (w : ∀ (l : List Int) (v' : Int) (S' : Hs), l.Perm (upTo m) → Fr p S S' → S' p = some (.lst [.int v']) → Q (.vl (l.map .int)) S') : cal T (n + 2) 149 [.d (.ref p), .d (.int m)] S Q := by
  refine ⟨_, hT, rfl, rfl, ?_⟩
  have hs := fun (S : Hs) (v m : Int) Q (h : S p = some (.lst [.int v])) => sip_ok h7 n (m := m) (Q := Q) h
  generalize cal T (n + 1) = c at hs ⊢
  refine ⟨_, rfl, ⟨_, rfl, by omega, by omega, ?_⟩⟩
  refine ⟨_, rfl, fun la hla => ?_⟩
  have nla : la ≠ p := fun e => by subst e; rw [hw] at hla; cases hla
  refine ⟨_, rfl, by decide, ?_⟩
  refine whl_inv (fun k σ S' => ∃ (s4 : Option Vx) (left found : List Int) (v : Int), k = left.length ∧ σ = [some (.d (.ref p)), some (.d (.int m)), some (.d (.ref la)), some (.vl (found.map D.int)), s4] ∧ (left ++ found).Perm (upTo m) ∧ S' la = some (.lst (left.map D.int)) ∧ S' p = some (.lst [.int v]) ∧ Fr p S S') ?_ (m := (upTo m).length) ?_
  · rintro k σ S' kk hk ⟨s4, left, found, v, rfl, rfl, pm, hl, hp, hf⟩
    have len := pm.length_eq
    rw [List.length_append, upTo_len] at len
    have e0 : eqBs (left.map D.int) [] = decide (left = []) := eqBs_ints left []
    refine ⟨_, rfl, ⟨_, rfl, Nat.le_of_ble_eq_true rfl, ⟨_, hl, ⟨.inl rfl, Br.of (decide (¬ left = [])) ?_ ?_⟩⟩⟩⟩
    · show (!eqBs (left.map D.int) []) = _
      rw [e0]; simp
    · split
      · rename_i hne
        have hne : ¬ left = [] := of_decide_eq_true hne
        have hpos : 0 < left.length := List.length_pos_iff.mpr hne
        refine ⟨_, rfl, ⟨_, rfl, ⟨_, hl, ⟨_, rfl, hs _ _ _ _ hp ?_ ?_ fun d v2 d0 d1 => ?_⟩⟩⟩⟩
        · simp; omega
        · simp; omega
        · obtain ⟨i, rfl⟩ := Int.eq_ofNat_of_zero_le d0
          have hi : i < left.length := by simp at d1; exact d1
          have e2 : (su S' p (.lst [.int v2])) la = some (.lst (left.map D.int)) := by rw [su_ne nla]; exact hl
          have hget : (left.map D.int)[i]? = some (.int left[i]) := by rw [List.getElem?_map, List.getElem?_eq_getElem hi]; rfl
          refine ⟨_, rfl, ⟨_, rfl, ⟨_, _, rfl, e2, ⟨_, rfl, ⟨_, e2, ⟨_, hget, ⟨_, rfl, ?_⟩⟩⟩⟩⟩⟩⟩
          refine ⟨?_, ?_⟩
          · show (found.map D.int).length < sizeLine
            simp; exact Nat.lt_of_lt_of_le (show found.length < 8001 by omega) (by decide)
          · have hperm : (left.eraseIdx i ++ (found ++ [left[i]])).Perm (left ++ found) := by
              have h1 : (left[i] :: left.eraseIdx i).Perm left := erase_perm hi
              have h2 : (left.eraseIdx i ++ (found ++ [left[i]])).Perm (left[i] :: (left.eraseIdx i ++ found)) := by
                rw [← List.append_assoc]
                exact List.perm_append_singleton _ _
              exact h2.trans (List.Perm.append_right found h1)
            refine hk _ _ _ ?_ ⟨_, left.eraseIdx i, found ++ [left[i]], v2, rfl, by simp; rfl, hperm.trans pm, ?_, ?_, ?_⟩
            · rw [List.length_eraseIdx_of_lt hi]; omega
            · rw [su_same, map_eraseIdx]
            · rw [su_ne nla.symm, su_same]
            · exact (hf.trans Fr.pen).new hla
      · rename_i hne
        have he : left = [] := by simpa using hne
        subst he
        exact ⟨_, rfl, w found v S' (by simpa using pm) hf hp⟩
  · refine ⟨_, upTo m, [], v, rfl, rfl, by simp, ?_, ?_, Fr.refl.new hla⟩
    · rw [su_same, rngD_ints]; rfl
    · rw [su_ne nla.symm]; exact hw
theorem rng_bd (a b : Int) (h : 0 ≤ a) (hab : a ≤ b) (l : Nat) : ∃ z : Int, (if (if (l : Int) < b then (l : Int) else b) > a then (if (l : Int) < b then (l : Int) else b) else a) = z ∧ 0 ≤ z ∧ z ≤ b := by
  refine ⟨_, rfl, ?_⟩
  have key : ∀ y : Int, y ≤ b → 0 ≤ (if y > a then y else a) ∧ (if y > a then y else a) ≤ b := fun y hy => by
    by_cases h : y > a
    · rw [if_pos h]; omega
    · rw [if_neg h]; omega
  refine key _ ?_
  by_cases h : (l : Int) < b
  · rw [if_pos h]; omega
  · rw [if_neg h]; exact Int.le_refl _
theorem eqB_tupI (k x : List Int) : eqB (tupI k) (tupI x) = decide (k = x) := eqBs_ints k x
theorem keyN_tupI (k : List Int) : keyN (tupI k) = true := pls_ints 7 k
section
variable {α : Type} {f : α → D}
noncomputable def encN (f : α → D) (kvs : List (List Int × α)) : List (D × D) := kvs.map fun p => (tupI p.1, f p.2)
noncomputable def nget : List (List Int × α) → List Int → Option α
  | [], _ => none
  | (k, v) :: r, x => if k = x then some v else nget r x
noncomputable def nput (kvs : List (List Int × α)) (x : List Int) (y : α) : List (List Int × α) := if (nget kvs x).isSome then kvs.map fun p => if p.1 = x then (p.1, y) else p else kvs ++ [(x, y)]
theorem dget_encN : ∀ (kvs : List (List Int × α)) (x : List Int), dget (encN f kvs) (tupI x) = (nget kvs x).map f
  | [], x => rfl
  | (k, v) :: r, x => by
    show (match eqB (tupI k) (tupI x) with | true => some (f v) | false => dget (encN f r) (tupI x)) = _
    rw [eqB_tupI]
    by_cases h : k = x
    · rw [decide_eq_true h]; simp [nget, h]
    · rw [decide_eq_false h, dget_encN r x]; simp [nget, h]
theorem dhas_encN (kvs : List (List Int × α)) (x : List Int) : dhas (encN f kvs) (tupI x) = (nget kvs x).isSome := by
  unfold dhas
  rw [dget_encN]
  cases nget kvs x <;> rfl
theorem dput_encN (kvs : List (List Int × α)) (x : List Int) (y : α) : dput (encN f kvs) (tupI x) (f y) = encN f (nput kvs x y) := by
  unfold dput nput
  rw [dhas_encN]
  cases h : (nget kvs x).isSome with
  | true =>
    simp only [if_true]
    show (kvs.map _).map _ = (kvs.map _).map _
    rw [List.map_map, List.map_map]
    refine List.map_congr_left fun p _ => ?_
    show (match eqB (tupI p.1) (tupI x) with | true => (tupI p.1, f y) | false => (tupI p.1, f p.2)) = (tupI (if p.1 = x then (p.1, y) else p).1, f (if p.1 = x then (p.1, y) else p).2)
    rw [eqB_tupI]
    by_cases h : p.1 = x
    · rw [decide_eq_true h, if_pos h]
    · rw [decide_eq_false h, if_neg h]
  | false => simp [encN]
theorem nget_none {kvs : List (List Int × α)} {x : List Int} : nget kvs x = none ↔ ∀ p ∈ kvs, p.1 ≠ x := by
  induction kvs with
  | nil => simp [nget]
  | cons p r ih =>
    obtain ⟨k, v⟩ := p
    unfold nget
    by_cases h : k = x
    · simp [h]
    · simp [h, ih]
theorem nput_mem {kvs : List (List Int × α)} {x : List Int} {y : α} {p : List Int × α} (h : p ∈ nput kvs x y) : p = (x, y) ∨ p ∈ kvs := by
  unfold nput at h
  split at h
  · obtain ⟨q, hq, rfl⟩ := List.mem_map.mp h
    split
    · rename_i e; left; rw [← e]
    · exact .inr hq
  · rcases List.mem_append.mp h with h | h
    · exact .inr h
    · exact .inl (by simpa using h)
theorem nput_keys {kvs : List (List Int × α)} {x : List Int} {y : α} (h : (kvs.map Prod.fst).Nodup) : ((nput kvs x y).map Prod.fst).Nodup := by
  unfold nput
  split
  · have : (kvs.map fun p => if p.1 = x then (p.1, y) else p).map Prod.fst = kvs.map Prod.fst := by
      rw [List.map_map]
      refine List.map_congr_left fun p _ => ?_
      show (if p.1 = x then (p.1, y) else p).1 = p.1
      split <;> rfl
    rw [this]; exact h
  · rename_i z
    have z : nget kvs x = none := by simpa using z
    rw [List.map_append]
    refine List.nodup_append.mpr ⟨h, by simp, fun a ha b hb e => ?_⟩
    obtain ⟨p, hp, rfl⟩ := List.mem_map.mp ha
    have hb : b = x := by simpa using hb
    exact nget_none.mp z p hp (e.trans hb)
theorem nput_len {kvs : List (List Int × α)} {x : List Int} {y : α} : (nput kvs x y).length ≤ kvs.length + 1 := by
  unfold nput
  split <;> simp
theorem nget_mem {kvs : List (List Int × α)} (h : (kvs.map Prod.fst).Nodup) {k : List Int} {v : α} (hm : (k, v) ∈ kvs) : nget kvs k = some v := by
  induction kvs with
  | nil => cases hm
  | cons p r ih =>
    obtain ⟨a, b⟩ := p
    have nd := List.nodup_cons.mp (show (a :: r.map Prod.fst).Nodup from h)
    unfold nget
    rcases List.mem_cons.mp hm with e | hm
    · cases e; simp
    · rw [if_neg fun e => by subst e; exact nd.1 (List.mem_map_of_mem (f := Prod.fst) hm)]
      exact ih nd.2 hm
theorem nget_put (kvs : List (List Int × α)) (x z : List Int) (y : α) : nget (nput kvs x y) z = if x = z then some y else nget kvs z := by
  unfold nput
  split
  · rename_i h
    have key : ∀ (l : List (List Int × α)), nget (l.map fun p => if p.1 = x then (p.1, y) else p) z = if x = z then (if (nget l x).isSome then some y else none) else nget l z := by
      intro l
      induction l with
      | nil => simp [nget]
      | cons p r ih =>
        obtain ⟨k, v⟩ := p
        simp only [List.map_cons]
        by_cases e : k = x
        · subst e
          by_cases e2 : k = z
          · subst e2; simp [nget]
          · simp [nget, e2, ih]
        · by_cases e2 : k = z
          · subst e2
            have : ¬ x = k := fun q => e q.symm
            simp [nget, e, this]
          · by_cases e3 : x = z
            · subst e3; simp [nget, e, e2, ih]
            · simp [nget, e, e2, e3, ih]
    rw [key, h]
    by_cases e3 : x = z <;> simp [e3]
  · rename_i h
    have h : nget kvs x = none := by simpa using h
    have key : ∀ (l : List (List Int × α)), nget l x = none → nget (l ++ [(x, y)]) z = if x = z then some y else nget l z := by
      intro l
      induction l with
      | nil => intro _; simp [nget]
      | cons p r ih =>
        obtain ⟨k, v⟩ := p
        intro hl
        unfold nget at hl
        split at hl
        · cases hl
        · rename_i hk
          simp only [List.cons_append, nget]
          rw [ih hl]
          by_cases e2 : k = z
          · subst e2
            have : ¬ x = k := fun q => hk q.symm
            simp [this]
          · by_cases e3 : x = z
            · subst e3; simp [hk]
            · simp [e2, e3]
    exact key kvs h
end
theorem compL_sub {α : Type} {tg : Tg} {ok : Sl → Hs → Prop} {elt : Sl → Hs → (D → Hs → Prop) → Prop} {tst : Sl → Hs → (Bool → Hs → Prop) → Prop} {σ : Sl} {K : List D → Hs → Prop} (f : α → D) (I : Hs → Prop) (hok : ∀ S, I S → ok σ S) :
    ∀ (xs acc : List α) (S : Hs), (∀ x ∈ xs, ∀ S, I S → ∀ (P1 : D → Hs → Prop) (P2 : Hs → Prop), (∀ S2, I S2 → P1 (f x) S2) → (∀ S2, I S2 → P2 S2) → bindT tg (f x) σ fun σ' => tst σ' S fun b S1 => Br b (elt σ' S1 P1) (P2 S1)) → acc.length + xs.length ≤ sizeLine →
      (∀ l S, l.Sublist xs → I S → K ((acc ++ l).map f) S) → I S → compL tg ok elt tst σ (xs.map f) (acc.map f) S K
  | [], acc, S, _, _, k, i => ⟨hok _ i, by simpa using k [] S (List.Sublist.refl _) i⟩
  | x :: xs, acc, S, h, hl, k, i => by
    have hl' : acc.length + xs.length + 1 ≤ sizeLine := by simpa [Nat.add_assoc] using hl
    refine ⟨hok _ i, h x List.mem_cons_self S i _ _ (fun S2 i2 => ⟨by simp; omega, ?_⟩) (fun S2 i2 => ?_)⟩
    · have := compL_sub f I hok xs (acc ++ [x]) S2 (fun y hy => h y (List.mem_cons_of_mem _ hy)) (by simp; omega) (fun l S hs i => by
        have := k (x :: l) S (hs.cons_cons x) i
        simpa using this) i2
      simpa using this
    · exact compL_sub f I hok xs acc S2 (fun y hy => h y (List.mem_cons_of_mem _ hy)) (by omega) (fun l S hs i => k l S (hs.cons x) i) i2
theorem index_ok {l : List Int} {x : Int} {S : Hs} {Q : VK2} (h : x ∈ l) (w : Q (.d (.int (l.idxOf x : Nat))) S) : bmD .index (.bw (l.map D.int)) (.d (.int x)) S Q := by
  have hi := List.idxOf_lt_length_iff.mpr h
  refine ⟨_, _, l.idxOf x, .int x, rfl, rfl, rfl, ?_, ?_, ?_, ?_, w⟩
  · rw [List.all_eq_true]; intro y hy; obtain ⟨z, _, rfl⟩ := List.mem_map.mp hy; rfl
  · rw [List.getElem?_map, List.getElem?_eq_getElem hi, List.getElem_idxOf hi]; rfl
  · show decide (x = x) = true
    simp
  · intro m z hm e
    have hml : m < l.length := by omega
    rw [List.getElem?_map, List.getElem?_eq_getElem hml] at e
    cases e
    show decide (l[m] = x) = false
    have h2 : (l[m] == x) = false := List.not_of_lt_findIdx (p := (· == x)) (xs := l) hm
    exact decide_eq_false fun q => by rw [q] at h2; simp at h2
theorem Fr.none {p a : Addr} {S S1 : Hs} {o : O} (h : Fr p S S1) (hp : S1 p = some o) (n : S1 a = none) : S a = none ∧ a ≠ p := by
  have np : a ≠ p := fun e => by subst e; rw [hp] at n; cases n
  refine ⟨?_, np⟩
  cases q : S a with
  | none => rfl
  | some o => rw [h a o q np] at n; cases n
noncomputable abbrev xtI (r : List Int) : D := .xt (r.map D.int)
structure Tale where
  many : Int
  times : List (List Int)
  rows : List (List Int)
  looks : List (List Int)
noncomputable def Tale.d (t : Tale) : D := .tup [.int t.many, .tup (t.times.map tupI), .tup (t.rows.map xtI), .tup (t.looks.map tupI)]
noncomputable def timeOk (m : Int) (x : List Int) : Prop := ∃ a b, x = [a, b] ∧ a ≠ b ∧ (0 ≤ a ∧ a < m) ∧ (0 ≤ b ∧ b < m)
noncomputable def lookOk (m : Int) (rows : List (List Int)) (x : List Int) : Prop := ∃ a b s r, x = [a, b, s] ∧ (0 ≤ a ∧ a < m) ∧ 0 ≤ b ∧ rows[b.toNat]? = some r ∧ (s = -1 ∨ s ∈ r ∧ s ≠ a)
structure Tale.Ok (t : Tale) (most : Int) : Prop where
  m0 : 1 ≤ t.many
  m1 : t.many ≤ most
  times : ∀ x ∈ t.times, timeOk t.many x
  timesS : srtN t.times
  timesN : t.times.Nodup
  timesL : (t.times.length : Int) ≤ t.many
  rows0 : 1 ≤ t.rows.length
  rows1 : t.rows.length ≤ 6
  row : ∀ r ∈ t.rows, r.Nodup ∧ ∀ x ∈ r, 0 ≤ x ∧ x < t.many
  looks : ∀ x ∈ t.looks, lookOk t.many t.rows x
  looksS : srtN t.looks
  looksN : (t.looks.map fun x => x.take 2).Nodup
  looksL : (t.looks.length : Int) ≤ 2 * t.many
theorem cut_tail {α : Type} (x : α) (xs : List α) : cutI (x :: xs) (some 1) none = xs := by
  unfold cutI
  rw [show (1 : Int) = ((1 : Nat) : Int) from rfl, HT.sIx_nat, HT.sIx_none]
  simp
theorem last_ints {l : List Int} (h : l ≠ []) : ∃ y ∈ l, getI (l.map D.int) (-1) = some (.int y) := by
  refine ⟨l.getLast h, List.getLast_mem h, ?_⟩
  obtain ⟨m, x, rfl⟩ : ∃ m x, l = m ++ [x] := ⟨l.dropLast, l.getLast h, (List.dropLast_concat_getLast h).symm⟩
  rw [List.map_append]
  simpa using getI_last (m.map D.int) (.int x)
theorem nodup_rev {l : List Int} (h : l.Nodup) : l.reverse.Nodup := List.pairwise_reverse.mpr (h.imp fun h e => h e.symm)
noncomputable def keepAt (p : Addr) (S S' : Hs) : Prop := Fr p S S' ∧ ∃ v, S' p = some (.lst [.int v])
theorem keepAt.sip {p : Addr} {S S' : Hs} (h : keepAt p S S') (v : Int) : keepAt p S (su S' p (.lst [.int v])) := ⟨h.1.trans Fr.pen, v, su_same⟩
theorem keepAt.at {p a : Addr} {S S' : Hs} {o : O} (h : keepAt p S S') (n : S a = none) (np : a ≠ p) : keepAt p S (su S' a o) := ⟨h.1.new n, by obtain ⟨v, hv⟩ := h.2; exact ⟨v, by rw [su_ne np.symm]; exact hv⟩⟩
noncomputable def rowsOk (hid : List Int) (rows : List (List Int)) : Prop := ∀ r ∈ rows, r.Nodup ∧ (∀ x ∈ r, x ∈ hid) ∧ r.length ≤ hid.length
theorem tale_ok {T : Tbl} (h7 : T.fn 147 = some f_law_sip) (h9 : T.fn 149 = some f_law_mixed) (hT : T.fn 150 = some f_law_tale) (n : Nat) {S : Hs} {p : Addr} {v most : Int} {Q : VK2} (hw : S p = some (.lst [.int v])) (hm0 : 1 ≤ most) (hm1 : most ≤ 3000)
    (w : ∀ (t : Tale) (v' : Int) (S' : Hs), t.Ok most → Fr p S S' → S' p = some (.lst [.int v']) → Q (.d t.d) S') : cal T (n + 3) 150 [.d (.ref p), .d (.int most)] S Q := by
  refine ⟨_, hT, rfl, rfl, ?_⟩
  have hs := fun (S : Hs) (v m : Int) Q (h : S p = some (.lst [.int v])) => sip_ok h7 (n + 1) (m := m) (Q := Q) h
  have hx := fun (S : Hs) (v m : Int) Q (h : S p = some (.lst [.int v])) => mixed_ok h7 h9 n (m := m) (Q := Q) h
  generalize cal T (n + 2) = c at hs hx ⊢
  refine ⟨_, rfl, ⟨_, rfl, hs _ _ _ _ hw (by omega) (by omega) fun d v1 d0 d1 => ?_⟩⟩
  have k1 : keepAt p S (su S p (.lst [.int v1])) := ⟨Fr.pen, v1, su_same⟩
  generalize su S p (.lst [.int v1]) = S1 at k1 ⊢
  obtain ⟨many, hmany⟩ : ∃ many, 1 + d = many := ⟨_, rfl⟩
  refine ⟨_, rfl, ?_⟩
  show wpS T c _ [some (.d (.ref p)), some (.d (.int most)), some (.d (.int (1 + d))), none, none, none, none, none, none, none, none, none, none, none] S1 _ _ _ _
  rw [hmany]
  have mm : 1 ≤ many ∧ many ≤ most := ⟨by omega, by omega⟩
  obtain ⟨f1, v1', hv1⟩ := k1
  refine ⟨_, rfl, ⟨_, rfl, hx _ _ _ _ hv1 (by omega) (by omega) fun hid v2 S2 hperm f2 hv2 => ?_⟩⟩
  have k2 : keepAt p S S2 := ⟨f1.trans f2, v2, hv2⟩
  have hmem : ∀ x, x ∈ hid ↔ 0 ≤ x ∧ x < many := fun x => by rw [hperm.mem_iff, upTo_mem]
  have hnd : hid.Nodup := hperm.nodup_iff.mpr (upTo_nodup _)
  have hlen : hid.length = many.toNat := by rw [hperm.length_eq, upTo_len]
  clear hperm f2 hv2 hv1 f1
  refine ⟨_, rfl, Nat.le_of_ble_eq_true rfl, ?_⟩
  -- the writers
  obtain ⟨v2', hv2⟩ := k2.2
  refine ⟨_, rfl, ⟨_, rfl, Nat.le_of_ble_eq_true rfl, ⟨_, rfl, hs _ _ _ _ hv2 (by decide) (by decide) fun d2 v3 e0 e1 => ?_⟩⟩⟩
  have k3 := k2.sip v3
  generalize su S2 p (.lst [.int v3]) = S3 at k3 ⊢
  obtain ⟨v3', hv3⟩ := k3.2
  refine idx_ints (l := [3, 3, 6]) e0 e1 fun z hz => hs _ _ _ _ hv3 ?_ ?_ fun d3 v4 g0 g1 => ?_
  · simp at hz; omega
  · simp at hz; omega
  have k4 := k3.sip v4
  generalize su S3 p (.lst [.int v4]) = S4 at k4 ⊢
  have hz : z ≤ 6 := by simp at hz; omega
  refine ⟨_, rfl, by omega, by omega, ?_⟩
  clear k2 k3 hv2 hv3
  refine forL_map' D.int (upTo (1 + d3)) (rngD_ints _) (fun rest σ S' => ∃ (rows : List (List Int)) (s5 s6 : Option Vx), σ = [some (.d (.ref p)), some (.d (.int most)), some (.d (.int many)), some (.vl (hid.map D.int)), some (.vl (rows.map xtI)), s5, s6, none, none, none, none, none, none, none] ∧
    rows.length + rest.length = (1 + d3).toNat ∧ rowsOk hid rows ∧ keepAt p S S') (fun _ _ _ _ => trivial) ?_ ?_ _ _ ⟨[], _, _, rfl, by rw [upTo_len]; simp, (fun r hr => by cases hr), k4⟩
  case refine_2 =>
    rintro b rest _ _ kk σ S' hk ⟨rows, s5, s6, rfl, hrl, hrows, hkp⟩
    refine ⟨_, rfl, ?_⟩
    refine compL_sub D.int (keepAt p S) (fun _ _ => trivial) hid [] S' (fun x hx S2 i P1 P2 h1 h2 => ?_) (by simp; exact Nat.le_trans (show hid.length ≤ 3000 by omega) (by decide)) (fun l S2 hl i => ?_) hkp
    · obtain ⟨v, hv⟩ := i.2
      refine ⟨_, rfl, hs _ _ _ _ hv (by decide) (by decide) fun d v' d0 d1 => ?_⟩
      exact Br.mk (fun _ => ⟨_, rfl, h1 _ (i.sip _)⟩) (fun _ => h2 _ (i.sip _))
    · obtain ⟨v, hv⟩ := i.2
      have go : ∀ (l' : List Int) (S3 : Hs), l'.Nodup → (∀ x ∈ l', x ∈ hid) → l'.length ≤ hid.length → keepAt p S S3 → kk [some (.d (.ref p)), some (.d (.int most)), some (.d (.int many)), some (.vl (hid.map D.int)), some (.vl (rows.map xtI ++ [xtI l'])), some (.d (.int b)), some (.vl (l.map D.int)), none, none, none, none, none, none, none] S3 := fun l' S3 n1 n2 n3 i3 =>
        hk _ _ ⟨rows ++ [l'], some (.d (.int b)), some (.vl (l.map D.int)), by rw [List.map_append]; rfl, by simp at hrl ⊢; omega, fun r hr => by
          rcases List.mem_append.mp hr with hr | hr
          · exact hrows r hr
          · have hr : r = l' := by simpa using hr
            rw [hr]; exact ⟨n1, n2, n3⟩, i3⟩
      have rlen : (rows.map xtI).length < sizeLine := by
        simp at hrl ⊢
        exact Nat.lt_of_lt_of_le (show rows.length < 8 by omega) (by decide)
      refine ⟨_, rfl, ⟨_, rfl, ⟨_, rfl, hs _ _ _ _ hv (by decide) (by decide) fun d v' d0 d1 => ?_⟩⟩⟩
      refine ⟨rfl, rfl, ?_⟩
      cases hq : eqB (.int d) (.int 0) with
      | true =>
        refine ⟨.inl (.inl (by decide)), ⟨_, rfl, .inr rfl, ⟨_, rfl, ⟨_, rfl, ⟨rlen, ?_⟩⟩⟩⟩⟩
        have e : (if (1 - 2 * 1 : Int) = 1 then (l.map D.int) else (l.map D.int).reverse) = l.reverse.map D.int := by rw [if_neg (by decide), List.map_reverse]
        have := go l.reverse _ (nodup_rev (hnd.sublist hl)) (fun x hx => hl.subset (List.mem_reverse.mp hx)) (by rw [List.length_reverse]; exact hl.length_le) (i.sip v')
        rw [show xtI l.reverse = .xt (if (1 - 2 * 1 : Int) = 1 then (l.map D.int) else (l.map D.int).reverse) from by rw [e]] at this
        exact this
      | false =>
        refine ⟨.inl (.inl (by decide)), ⟨_, rfl, .inl rfl, ⟨_, rfl, ⟨_, rfl, ⟨rlen, ?_⟩⟩⟩⟩⟩
        exact go l _ (hnd.sublist hl) (fun x hx => hl.subset hx) hl.length_le (i.sip v')
  rintro σ S5 ⟨rows, s5, s6, rfl, hrl, hrows, k5⟩
  have rl : 1 ≤ rows.length ∧ rows.length ≤ 6 := by simp at hrl; omega
  -- the looks
  intro lk hlk
  obtain ⟨v5, hv5⟩ := k5.2
  obtain ⟨nlk, lkp⟩ := k5.1.none hv5 hlk
  have k6 := k5.at (o := .dn []) nlk lkp
  have hl6 : (su S5 lk (.dn [])) lk = some (.dn []) := su_same
  generalize su S5 lk (.dn []) = S6 at k6 hl6 ⊢
  clear k5 hlk hv5 k4
  obtain ⟨v6, hv6⟩ := k6.2
  have h2 : -(2 ^ 64) < (2 : Int) ∧ (2 : Int) < 2 ^ 64 := by decide
  refine ⟨_, rfl, ⟨_, rfl, .inl (.inl h2), hs _ _ _ _ hv6 (by omega) (by omega) fun d6 v7 d60 d61 => ?_⟩⟩
  have k7 := k6.sip v7
  have hl7 : (su S6 p (.lst [.int v7])) lk = some (.dn []) := by rw [su_ne lkp]; exact hl6
  generalize su S6 p (.lst [.int v7]) = S7 at k7 hl7 ⊢
  clear k6 hl6 hv6
  refine ⟨_, rfl, by omega, by omega, ?_⟩
  refine forL_map' D.int (upTo d6) (rngD_ints _) (fun rest σ S' => ∃ (ls : List (List Int × Int)) (s5 s6 s7 s9 s10 s11 : Option Vx), σ = [some (.d (.ref p)), some (.d (.int most)), some (.d (.int many)), some (.vl (hid.map D.int)), some (.vl (rows.map xtI)), s5, s6, s7, some (.d (.ref lk)), s9, s10, s11, none, none] ∧
    S' lk = some (.dn (encN D.int ls)) ∧ ls.length + rest.length ≤ d6.toNat ∧ (ls.map Prod.fst).Nodup ∧ (∀ e ∈ ls, e.1.length = 2 ∧ lookOk many rows (e.1 ++ [e.2])) ∧ keepAt p S S') (fun _ _ _ _ => trivial) ?_ ?_ _ _ ⟨[], _, _, _, _, _, _, rfl, hl7, by rw [upTo_len]; simp, List.nodup_nil, fun e he => (by cases he), k7⟩
  case refine_2 =>
    rintro i rest _ _ kk σ S' hk ⟨ls, s5, s6, s7, s9, s10, s11, rfl, hls, hll, hkn, hok, hkp⟩
    obtain ⟨v, hv⟩ := hkp.2
    refine ⟨_, rfl, ⟨_, rfl, hs _ _ _ _ hv (by omega) (by omega) fun a va a0 a1 => ?_⟩⟩
    have ka := hkp.sip va
    have la : (su S' p (.lst [.int va])) lk = some (.dn (encN D.int ls)) := by rw [su_ne lkp]; exact hls
    generalize su S' p (.lst [.int va]) = Sa at ka la ⊢
    clear hkp hls hv v
    obtain ⟨v, hv⟩ := ka.2
    refine ⟨_, rfl, ?_⟩
    refine ⟨_, rfl, ⟨_, rfl, ⟨_, rfl, hs _ _ _ _ hv ?_ ?_ fun b vb b0 b1 => ?_⟩⟩⟩
    · simp; omega
    · simp; omega
    have kb := ka.sip vb
    have lb : (su Sa p (.lst [.int vb])) lk = some (.dn (encN D.int ls)) := by rw [su_ne lkp]; exact la
    generalize su Sa p (.lst [.int vb]) = Sb at kb lb ⊢
    clear ka la hv v
    obtain ⟨v, hv⟩ := kb.2
    refine ⟨_, rfl, ?_⟩
    have b1 : b.toNat < rows.length := by simp at b1; omega
    obtain ⟨r, hr⟩ : ∃ r, rows[b.toNat]? = some r := ⟨_, List.getElem?_eq_getElem b1⟩
    have hrm := List.mem_of_getElem? hr
    have hgr : getI (rows.map xtI) b = some (xtI r) := by
      obtain ⟨bn, rfl⟩ := Int.eq_ofNat_of_zero_le b0
      show (rows.map xtI)[bn]? = _
      rw [List.getElem?_map, show rows[bn]? = some r from hr]; rfl
    have rlen : r.length ≤ many.toNat := by
      rw [← hlen]
      exact (hrows r hrm).2.2
    refine ⟨_, rfl, Nat.le_of_ble_eq_true rfl, ⟨_, rfl, ⟨_, rfl, ⟨_, hgr, ?_⟩⟩⟩⟩
    refine compL_fm' D.int (fun x => if (!decide (x = a)) = true then some (.int x) else none) r rfl trivial (fun x hx P1 P2 h1 h2 => ?_) (Nat.le_trans (show r.length ≤ 3000 by omega) (by decide)) ?_
    · refine ⟨_, rfl, ⟨_, rfl, ⟨rfl, rfl, Br.mk (fun e => ⟨_, rfl, h1 _ (if_pos e)⟩) (fun e => h2 (if_neg (by rw [show (!decide (x = a)) = false from e]; decide)))⟩⟩⟩
    rw [fm_filter]
    generalize hrw : r.filter (fun x => !decide (x = a)) = rw1
    have hrw1 : ∀ x ∈ rw1, x ∈ r ∧ x ≠ a := fun x hx => by
      rw [← hrw, List.mem_filter] at hx
      exact ⟨hx.1, by simpa using hx.2⟩
    have hrwl : rw1.length ≤ 3000 := by
      have : rw1.length ≤ r.length := by rw [← hrw]; exact List.length_filter_le _ _
      omega
    refine ⟨?_, ?_⟩
    · show 1 + (rw1.map D.int).length ≤ sizeLine
      rw [List.length_map]; exact Nat.le_trans (show 1 + rw1.length ≤ 3001 by omega) (by decide)
    refine ⟨_, rfl, Nat.le_of_ble_eq_true rfl, ⟨_, rfl, ⟨_, rfl, ⟨_, rfl, ?_⟩⟩⟩⟩
    have hah : a ∈ hid := (hmem a).mpr ⟨a0, a1⟩
    refine compL_fm' D.int (fun x => if decide ((hid.idxOf x : Int) < (hid.idxOf a : Int)) = true then some (.int x) else none) rw1 ?_ trivial (fun x hx P1 P2 h1 h2 => ?_) (Nat.le_trans hrwl (by decide)) ?_
    · exact cut_tail _ _
    · have hxh : x ∈ hid := (hrows r hrm).2.1 x (hrw1 x hx).1
      refine ⟨_, rfl, ⟨_, rfl⟩, ⟨_, rfl, one1_i (index_ok hxh ?_)⟩⟩
      refine ⟨_, rfl, ⟨_, rfl⟩, ⟨_, rfl, one1_i (index_ok hah ?_)⟩⟩
      exact Br.mk (fun e => ⟨_, rfl, h1 _ (if_pos e)⟩) (fun e => h2 (if_neg (by rw [show decide ((hid.idxOf x : Int) < (hid.idxOf a : Int)) = false from e]; decide)))
    rw [fm_filter]
    generalize her : rw1.filter (fun x => decide ((hid.idxOf x : Int) < (hid.idxOf a : Int))) = er
    have her1 : ∀ x ∈ er, x ∈ r ∧ x ≠ a := fun x hx => by
      rw [← her, List.mem_filter] at hx
      exact hrw1 x hx.1
    have herl : er.length ≤ 3000 := by
      have : er.length ≤ rw1.length := by rw [← her]; exact List.length_filter_le _ _
      omega
    refine ⟨?_, ?_⟩
    · show 1 + (er.map D.int).length ≤ sizeLine
      rw [List.length_map]; exact Nat.le_trans (show 1 + er.length ≤ 3001 by omega) (by decide)
    obtain ⟨y1, hy1, gy1⟩ := last_ints (l := -1 :: er) (by simp)
    refine ⟨_, rfl, ⟨_, gy1, ⟨_, rfl, ⟨_, rfl, ⟨_, rfl, ⟨_, rfl, hs _ _ _ _ hv ?_ ?_ fun i2 vc i20 i21 => ?_⟩⟩⟩⟩⟩⟩
    · simp <;> omega
    · simp <;> omega
    have kc := kb.sip vc
    have lc : (su Sb p (.lst [.int vc])) lk = some (.dn (encN D.int ls)) := by rw [su_ne lkp]; exact lb
    generalize su Sb p (.lst [.int vc]) = Sc at kc lc ⊢
    clear kb lb hv v
    obtain ⟨v, hv⟩ := kc.2
    refine idx_ints (l := -1 :: rw1) i20 (by simpa using i21) fun y2 hy2 => ?_
    refine ⟨_, rfl, Nat.le_of_ble_eq_true rfl, ⟨_, rfl, hs _ _ _ _ hv (by decide) (by decide) fun d5 vd _ _ => ?_⟩⟩
    have kd := kc.sip vd
    have ld : (su Sc p (.lst [.int vd])) lk = some (.dn (encN D.int ls)) := by rw [su_ne lkp]; exact lc
    generalize su Sc p (.lst [.int vd]) = Sd at kd ld ⊢
    clear kc lc hv v
    refine ⟨rfl, rfl, ?_⟩
    have llen : (encN D.int ls).length < sizeLine := by
      show (ls.map _).length < _
      simp at hll ⊢
      exact Nat.lt_of_lt_of_le (show ls.length < 6002 by omega) (by decide)
    have fin : ∀ s, (s = -1 ∨ s ∈ r ∧ s ≠ a) → ∀ σ, (∃ s5 s6 s7 s9 s10 s11 : Option Vx, σ = [some (.d (.ref p)), some (.d (.int most)), some (.d (.int many)), some (.vl (hid.map D.int)), some (.vl (rows.map xtI)), s5, s6, s7, some (.d (.ref lk)), s9, s10, s11, none, none]) → kk σ (su Sd lk (.dn (dput (encN D.int ls) (tupI [a, b]) (.int s)))) := by
      rintro s hs σ ⟨s5, s6, s7, s9, s10, s11, rfl⟩
      refine hk _ _ ⟨nput ls [a, b] s, _, _, _, _, _, _, rfl, by rw [su_same, dput_encN], ?_, nput_keys hkn, fun e he => ?_, kd.at nlk lkp⟩
      · have := nput_len (kvs := ls) (x := [a, b]) (y := s)
        simp at hll ⊢; omega
      · rcases nput_mem he with rfl | he
        · exact ⟨rfl, a, b, s, r, rfl, ⟨a0, a1⟩, b0, hr, hs⟩
        · exact hok e he
    cases hq : eqB (.int d5) (.int 0) with
    | true =>
      refine ⟨_, rfl, ⟨_, rfl, ⟨_, rfl, ⟨_, rfl, ⟨_, rfl, Nat.le_of_ble_eq_true rfl, ⟨_, _, _, rfl, ld, rfl, ⟨keyN_tupI [a, b], llen, ⟨_, rfl, ?_⟩⟩⟩⟩⟩⟩⟩⟩
      refine fin y2 ?_ _ ⟨_, _, _, _, _, _, rfl⟩
      rcases List.mem_cons.mp hy2 with e | e
      · exact .inl e
      · exact .inr (hrw1 _ e)
    | false =>
      refine ⟨_, rfl, ⟨_, rfl, ⟨_, rfl, ⟨_, rfl, ⟨_, rfl, Nat.le_of_ble_eq_true rfl, ⟨_, _, _, rfl, ld, rfl, ⟨keyN_tupI [a, b], llen, ⟨_, rfl, ?_⟩⟩⟩⟩⟩⟩⟩⟩
      refine fin y1 ?_ _ ⟨_, _, _, _, _, _, rfl⟩
      rcases List.mem_cons.mp hy1 with e | e
      · exact .inl e
      · exact .inr (her1 _ e)
  rintro σ S8 ⟨ls, s5, s6, s7, s9, s10, s11, rfl, hls, hll, hkn, hok, k8⟩
  have hll : ls.length ≤ d6.toNat := by simpa using hll
  clear hl7 k7
  -- the times
  intro tm htm
  obtain ⟨v8, hv8⟩ := k8.2
  obtain ⟨ntm, tmp⟩ := k8.1.none hv8 htm
  have tl : tm ≠ lk := fun e => by rw [e, hls] at htm; cases htm
  have k9 := k8.at (o := .dn []) ntm tmp
  have hl9 : (su S8 tm (.dn [])) lk = some (.dn (encN D.int ls)) := by rw [su_ne tl.symm]; exact hls
  have ht9 : (su S8 tm (.dn [])) tm = some (.dn []) := su_same
  generalize su S8 tm (.dn []) = S9 at k9 hl9 ht9 ⊢
  clear k8 hls hv8 htm
  obtain ⟨v9, hv9⟩ := k9.2
  refine ⟨_, rfl, ⟨_, rfl, hs _ _ _ _ hv9 (by omega) (by omega) fun d9 v10 d90 d91 => ?_⟩⟩
  have kA := k9.sip v10
  have hlA : (su S9 p (.lst [.int v10])) lk = some (.dn (encN D.int ls)) := by rw [su_ne lkp]; exact hl9
  have htA : (su S9 p (.lst [.int v10])) tm = some (.dn []) := by rw [su_ne tmp]; exact ht9
  generalize su S9 p (.lst [.int v10]) = SA at kA hlA htA ⊢
  clear k9 hl9 ht9 hv9
  refine ⟨_, rfl, by omega, by omega, ?_⟩
  refine forL_map' D.int (upTo d9) (rngD_ints _) (fun rest σ S' => ∃ (ts : List (List Int × Bool)) (s5 s6 s7 s9 s10 s11 s13 : Option Vx), σ = [some (.d (.ref p)), some (.d (.int most)), some (.d (.int many)), some (.vl (hid.map D.int)), some (.vl (rows.map xtI)), s5, s6, s7, some (.d (.ref lk)), s9, s10, s11, some (.d (.ref tm)), s13] ∧
    S' lk = some (.dn (encN D.int ls)) ∧ S' tm = some (.dn (encN D.bl ts)) ∧ ts.length + rest.length ≤ d9.toNat ∧ (ts.map Prod.fst).Nodup ∧ (∀ e ∈ ts, timeOk many e.1) ∧ keepAt p S S') (fun _ _ _ _ => trivial) ?_ ?_ _ _ ⟨[], _, _, _, _, _, _, _, rfl, hlA, htA, by rw [upTo_len]; simp, List.nodup_nil, fun e he => (by cases he), kA⟩
  case refine_2 =>
    rintro i rest _ _ kk σ S' hk ⟨ts, s5, s6, s7, s9, s10, s11, s13, rfl, hls, hts, htl, htn, hok, hkp⟩
    obtain ⟨v, hv⟩ := hkp.2
    refine ⟨_, rfl, ⟨_, rfl, hs _ _ _ _ hv (by omega) (by omega) fun a va a0 a1 => ?_⟩⟩
    have ka := hkp.sip va
    have la : (su S' p (.lst [.int va])) lk = some (.dn (encN D.int ls)) := by rw [su_ne lkp]; exact hls
    have ta : (su S' p (.lst [.int va])) tm = some (.dn (encN D.bl ts)) := by rw [su_ne tmp]; exact hts
    generalize su S' p (.lst [.int va]) = Sa at ka la ta ⊢
    clear hkp hls hts hv v
    obtain ⟨v, hv⟩ := ka.2
    refine ⟨_, rfl, ?_⟩
    refine ⟨_, rfl, ⟨_, rfl, hs _ _ _ _ hv (by omega) (by omega) fun b vb b0 b1 => ?_⟩⟩
    have kb := ka.sip vb
    have lb : (su Sa p (.lst [.int vb])) lk = some (.dn (encN D.int ls)) := by rw [su_ne lkp]; exact la
    have tb : (su Sa p (.lst [.int vb])) tm = some (.dn (encN D.bl ts)) := by rw [su_ne tmp]; exact ta
    generalize su Sa p (.lst [.int vb]) = Sb at kb lb tb ⊢
    clear ka la ta hv v
    obtain ⟨v, hv⟩ := kb.2
    refine ⟨_, rfl, ?_⟩
    have hlist : (encN D.bl ts).length < sizeLine := by
      show (ts.map _).length < _
      simp at htl ⊢
      exact Nat.lt_of_lt_of_le (show ts.length < 3002 by omega) (by decide)
    have hah : a ∈ hid := (hmem a).mpr ⟨a0, a1⟩
    have hbh : b ∈ hid := (hmem b).mpr ⟨b0, b1⟩
    have put : a ≠ b → ∀ (rt : VK2) (bk ct : SK2) (S2 : Hs), keepAt p S S2 → S2 lk = some (.dn (encN D.int ls)) → S2 tm = some (.dn (encN D.bl ts)) →
        wpS T c (.seti (.v 12) (.tup (.consb (.v 7) (.consb (.v 13) .nil))) (.b true)) [some (.d (.ref p)), some (.d (.int most)), some (.d (.int many)), some (.vl (hid.map D.int)), some (.vl (rows.map xtI)), s5, s6, some (.d (.int a)), some (.d (.ref lk)), some (.d (.int i)), s10, s11, some (.d (.ref tm)), some (.d (.int b))] S2 kk rt bk ct := by
      intro hab rt bk ct S2 i2 l2 t2
      refine ⟨_, rfl, ⟨_, rfl, ⟨_, rfl, ⟨_, rfl, Nat.le_of_ble_eq_true rfl, ⟨_, _, _, rfl, t2, rfl, ⟨keyN_tupI [a, b], hlist, ⟨_, rfl, ?_⟩⟩⟩⟩⟩⟩⟩
      refine hk _ _ ⟨nput ts [a, b] true, _, _, _, _, _, _, _, rfl, by rw [su_ne tl.symm]; exact l2, ?_, ?_, nput_keys htn, fun e he => ?_, i2.at ntm tmp⟩
      · rw [su_same]
        exact congrArg (fun z => some (O.dn z)) (dput_encN (f := D.bl) ts [a, b] true)
      · have := nput_len (kvs := ts) (x := [a, b]) (y := true)
        simp at htl ⊢; omega
      · rcases nput_mem he with rfl | he
        · exact ⟨a, b, rfl, hab, ⟨a0, a1⟩, ⟨b0, b1⟩⟩
        · exact hok e he
    have skp : ∀ (S2 : Hs), keepAt p S S2 → S2 lk = some (.dn (encN D.int ls)) → S2 tm = some (.dn (encN D.bl ts)) → kk [some (.d (.ref p)), some (.d (.int most)), some (.d (.int many)), some (.vl (hid.map D.int)), some (.vl (rows.map xtI)), s5, s6, some (.d (.int a)), some (.d (.ref lk)), some (.d (.int i)), s10, s11, some (.d (.ref tm)), some (.d (.int b))] S2 := fun S2 i2 l2 t2 =>
      hk _ _ ⟨ts, _, _, _, _, _, _, _, rfl, l2, t2, by simp at htl; omega, htn, hok, i2⟩
    refine ⟨_, rfl, ⟨_, rfl, ⟨rfl, rfl, Br.mk (fun e => ?_) (fun _ => Br.ff (skp _ kb lb tb))⟩⟩⟩
    have hab : a ≠ b := fun q => by
      have e : (!decide (a = b)) = true := e
      rw [q] at e; simp at e
    refine ⟨_, rfl, ⟨_, rfl⟩, ⟨_, rfl, one1_i (index_ok hah ?_)⟩⟩
    refine ⟨_, rfl, ⟨_, rfl⟩, ⟨_, rfl, one1_i (index_ok hbh ?_)⟩⟩
    refine Br.mk (fun _ => Br.tt (put hab _ _ _ _ kb lb tb)) (fun _ => ?_)
    refine ⟨_, rfl, hs _ _ _ _ hv (by decide) (by decide) fun d vc _ _ => ?_⟩
    have kc := kb.sip vc
    have lc : (su Sb p (.lst [.int vc])) lk = some (.dn (encN D.int ls)) := by rw [su_ne lkp]; exact lb
    have tc : (su Sb p (.lst [.int vc])) tm = some (.dn (encN D.bl ts)) := by rw [su_ne tmp]; exact tb
    exact ⟨rfl, rfl, Br.mk (fun _ => put hab _ _ _ _ kc lc tc) (fun _ => skp _ kc lc tc)⟩
  rintro σ SB ⟨ts, s5, s6, s7, s9, s10, s11, s13, rfl, hls, hts, htl, htn, htok, kB⟩
  have htl : ts.length ≤ d9.toNat := by simpa using htl
  refine ⟨_, rfl, ⟨_, rfl, ⟨_, hts, ⟨encN D.bl ts, ts.map Prod.fst, rfl, by unfold encN; rw [List.map_map, List.map_map]; rfl, fun q hq => ?_, fun times tp tsrt => ?_⟩⟩⟩⟩
  · obtain ⟨e, he, rfl⟩ := List.mem_map.mp hq
    obtain ⟨a, b, h, _⟩ := htok e he
    rw [h]; simp
  refine ⟨_, rfl, ⟨_, rfl, ⟨_, rfl, ?_⟩⟩⟩
  refine ⟨lk, _, hls, fun h ns => ⟨_, rfl, ⟨lk, _, h, ns, rfl, su_same, ?_⟩⟩⟩
  refine compL_fm' (fun e : List Int × Int => tupI e.1) (fun e => some (tupI (e.1 ++ [e.2]))) ls (by unfold encN; rw [List.map_map]; rfl) su_same (fun e he P1 P2 h1 h2 => ?_) (Nat.le_trans (show ls.length ≤ 6001 by omega) (by decide)) ?_
  · refine Br.tt ⟨_, rfl, ⟨_, rfl, ⟨_, rfl, ⟨_, su_same, ⟨keyN_tupI _, ⟨.int e.2, ?_, ⟨_, rfl, Nat.le_of_ble_eq_true rfl, ⟨?_, ?_⟩⟩⟩⟩⟩⟩⟩⟩
    · rw [dget_encN, nget_mem hkn he]; rfl
    · have := (hok e he).1
      simp [this]; exact (by decide : 2 + 1 ≤ sizeLine)
    · refine h1 _ ?_
      rw [tupI, List.map_append]; rfl
  refine ⟨su_same, ?_⟩
  rw [su_su, su_id hls]
  refine ⟨ls.map fun e => e.1 ++ [e.2], ?_, fun q hq => ?_, fun looks lp lsrt => ?_⟩
  · congr 1
    rw [List.map_map, List.filterMap_eq_map']
    rfl
  · obtain ⟨e, he, rfl⟩ := List.mem_map.mp hq
    simp
  refine ⟨_, rfl, ⟨_, rfl, Nat.le_of_ble_eq_true rfl, ?_⟩⟩
  obtain ⟨vB, hvB⟩ := kB.2
  refine w ⟨many, times, rows, looks⟩ vB SB ⟨mm.1, mm.2, fun x hx => ?_, tsrt, tp.nodup_iff.mpr htn, ?_, rl.1, rl.2, fun r hr => ⟨(hrows r hr).1, fun x hx => (hmem x).mp ((hrows r hr).2.1 x hx)⟩, fun x hx => ?_, lsrt, ?_, ?_⟩ kB.1 hvB
  · obtain ⟨e, he, rfl⟩ := List.mem_map.mp (tp.mem_iff.mp hx)
    exact htok e he
  · show (times.length : Int) ≤ many
    have := tp.length_eq
    simp at this; omega
  · obtain ⟨e, he, rfl⟩ := List.mem_map.mp (lp.mem_iff.mp hx)
    exact (hok e he).2
  · have q := lp.map fun x => x.take 2
    refine q.nodup_iff.mpr ?_
    have e : (ls.map fun e => e.1 ++ [e.2]).map (fun x => x.take 2) = ls.map Prod.fst := by
      rw [List.map_map]
      refine List.map_congr_left fun e he => ?_
      show (e.1 ++ [e.2]).take 2 = e.1
      rw [← (hok e he).1]
      simp
    rw [e]; exact hkn
  · show (looks.length : Int) ≤ 2 * many
    have := lp.length_eq
    simp at this; omega
section
variable {ord : List Int} {n : Nat}
theorem idx_inj {x y : Int} (hx : x ∈ ord) (hy : y ∈ ord) (e : ord.idxOf x = ord.idxOf y) : x = y := by
  have h1 := List.getElem_idxOf (List.idxOf_lt_length_iff.mpr hx)
  have h2 := List.getElem_idxOf (List.idxOf_lt_length_iff.mpr hy)
  rw [← h1, ← h2]
  simp only [e]
end
theorem getI_row {rows : List (List Int)} {b : Int} {r : List Int} (b0 : 0 ≤ b) (h : rows[b.toNat]? = some r) : getI (rows.map xtI) b = some (xtI r) := by
  obtain ⟨bn, rfl⟩ := Int.eq_ofNat_of_zero_le b0
  show (rows.map xtI)[bn]? = _
  rw [List.getElem?_map, show rows[bn]? = some r from h]; rfl
noncomputable def Nxt (r : List Int) (a b : Int) : Prop := ∃ p q, r = p ++ a :: b :: q
noncomputable def nextW (r : List Int) (s : Int) : Option Int := if s = -1 then r[0]? else r[r.idxOf s + 1]?
noncomputable def Must (t : Tale) (a b : Int) : Prop := [a, b] ∈ t.times ∨ (∃ r ∈ t.rows, Nxt r a b) ∨ (a ≠ -1 ∧ ∃ x, [b, x, a] ∈ t.looks) ∨ (a ≠ b ∧ ∃ x s r, [a, x, s] ∈ t.looks ∧ t.rows[x.toNat]? = some r ∧ nextW r s = some b)
theorem Nxt.cons {r : List Int} {a b x : Int} (h : Nxt r a b) : Nxt (x :: r) a b := by
  obtain ⟨p, q, rfl⟩ := h
  exact ⟨x :: p, q, rfl⟩
section
variable {ord : List Int}
end
theorem nextW_mem {r : List Int} {s b : Int} (h : nextW r s = some b) : b ∈ r := by
  unfold nextW at h
  split at h <;> exact List.mem_of_getElem? h
theorem next_writer_ok {T : Tbl} (hg : T.glob 17 = .d (.int (-1))) (hT : T.fn 159 = some f_next_writer) (n : Nat) {S : Hs} {r : List Int} {s : Int} {Q : VK2} (h : s = -1 ∨ s ∈ r)
    (w : Q (.d (match nextW r s with | some b => .int b | none => .non)) S) : cal T (n + 1) 159 [.d (xtI r), .d (.int s)] S Q := by
  refine ⟨_, hT, rfl, rfl, ?_⟩
  generalize cal T n = c
  have fin : ∀ (k : Nat) (σ : Sl), σ[0]? = some (some (.d (xtI r))) → σ[2]? = some (some (.d (.int (k : Nat)))) → r[k]? = nextW r s → k ≤ r.length →
      wpS T c (.seq (.iff (.o2 .eq (.v 2) (.o1 .len (.v 0))) (.ret .n) .skip) (.ret (.o2 .idx (.v 0) (.v 2)))) σ S (fun _ S' => Q (.d .non) S') Q (fun _ _ => False) (fun _ _ => False) := by
    intro k σ e0 e2 hk hkl
    refine ⟨_, e2, ⟨_, e0, ⟨_, rfl, ?_⟩⟩⟩
    refine ⟨rfl, rfl, Br.of (decide (k = r.length)) ?_ ?_⟩
    · show decide ((k : Int) = ((r.map D.int).length : Nat)) = _
      rw [List.length_map]
      by_cases q : k = r.length
      · rw [decide_eq_true q, decide_eq_true (by rw [q])]
      · rw [decide_eq_false q, decide_eq_false (fun z => q (by omega))]
    · split
      · rename_i q
        have q := of_decide_eq_true q
        have e : nextW r s = none := by rw [← hk, q]; simp
        rw [e] at w
        exact w
      · rename_i q
        have q : k < r.length := by
          have : ¬ k = r.length := fun z => q (decide_eq_true z)
          omega
        have e : nextW r s = some r[k] := by rw [← hk]; exact List.getElem?_eq_getElem q
        rw [e] at w
        exact ⟨_, e0, ⟨_, e2, ⟨.int r[k], by show (r.map D.int)[k]? = _; rw [List.getElem?_map, List.getElem?_eq_getElem q]; rfl, w⟩⟩⟩
  refine ⟨_, rfl, one1_i (wpg (c := c) hg (one1_i ⟨rfl, rfl, Br.of (decide (s ≠ -1)) ?_ ?_⟩))⟩
  · show (!decide (s = -1)) = _
    by_cases q : s = -1 <;> simp [q]
  · split
    · rename_i q
      have q := of_decide_eq_true q
      have hs : s ∈ r := h.resolve_left q
      refine ⟨_, rfl, ⟨⟨_, rfl⟩, ⟨_, rfl, ⟨r, s, rfl, rfl, hs, ?_⟩⟩⟩⟩
      refine fin (r.idxOf s + 1) _ rfl rfl ?_ (List.idxOf_lt_length_iff.mpr hs)
      unfold nextW
      rw [if_neg q]
    · rename_i q
      have q : s = -1 := by
        by_cases z : s = -1
        · exact z
        · exact (q (decide_eq_true z)).elim
      refine fin 0 _ rfl rfl ?_ (Nat.zero_le _)
      unfold nextW
      rw [if_pos q]
structure MK (ts : List (List Int × Bool)) (P : List Int → Prop) : Prop where
  nd : (ts.map Prod.fst).Nodup
  mem : ∀ k, k ∈ ts.map Prod.fst ↔ P k
theorem nput_key {ts : List (List Int × Bool)} {x k : List Int} : k ∈ (nput ts x true).map Prod.fst ↔ k ∈ ts.map Prod.fst ∨ k = x := by
  have hk : ∀ (l : List (List Int × Bool)) (z : List Int), z ∈ l.map Prod.fst ↔ (nget l z).isSome = true := fun l z => by
    cases q : nget l z with
    | none => simp only [Option.isSome_none]; constructor
              · intro h; obtain ⟨p, hp, e⟩ := List.mem_map.mp h; exact (nget_none.mp q p hp e).elim
              · intro h; cases h
    | some v =>
      simp only [Option.isSome_some, iff_true]
      cases z2 : decide (z ∈ l.map Prod.fst) with
      | true => exact of_decide_eq_true z2
      | false =>
        have := nget_none.mpr fun p hp (e : p.1 = z) => of_decide_eq_false z2 (e ▸ List.mem_map_of_mem hp)
        rw [q] at this; cases this
  rw [hk, hk, nget_put]
  by_cases e : x = k
  · subst e; simp
  · have : ¬ k = x := fun z => e z.symm
    simp [e, this]
theorem MK.put {ts : List (List Int × Bool)} {P : List Int → Prop} (h : MK ts P) (x : List Int) : MK (nput ts x true) (fun k => P k ∨ k = x) := ⟨nput_keys h.nd, fun k => by rw [nput_key, h.mem]⟩
theorem MK.of {ts : List (List Int × Bool)} {P P' : List Int → Prop} (h : MK ts P) (e : ∀ k, P k ↔ P' k) : MK ts P' := ⟨h.nd, fun k => (h.mem k).trans (e k)⟩
theorem zipD_ints : ∀ (l m : List Int), zipD (l.map D.int) (m.map D.int) = (l.zip m).map fun p => .tup [.int p.1, .int p.2]
  | [], _ => by simp [zipD]
  | _ :: _, [] => by simp [zipD]
  | x :: l, y :: m => by simp [zipD, zipD_ints l m]
theorem zip_nxt : ∀ {r : List Int} {a b : Int}, (a, b) ∈ r.zip (r.drop 1) ↔ Nxt r a b
  | [], a, b => ⟨fun h => by simp at h, fun ⟨p, q, e⟩ => by simp at e⟩
  | [x], a, b => ⟨fun h => by simp at h, fun ⟨p, q, e⟩ => by have := congrArg List.length e; simp at this; omega⟩
  | x :: y :: r, a, b => by
    have ih := zip_nxt (r := y :: r) (a := a) (b := b)
    simp only [List.drop_succ_cons, List.drop_zero] at ih ⊢
    rw [List.zip_cons_cons, List.mem_cons, ih]
    constructor
    · rintro (h | h)
      · cases h; exact ⟨[], r, rfl⟩
      · exact h.cons
    · rintro ⟨p, q, e⟩
      cases p with
      | nil => simp at e; exact .inl (by rw [e.1, e.2.1])
      | cons z p => simp at e; exact .inr ⟨p, q, e.2⟩
theorem cut1_ints (l : List Int) : cutI (l.map D.int) (some 1) none = (l.drop 1).map D.int := by
  cases l with
  | nil => rfl
  | cons x l => rw [List.map_cons, cut_tail]; rfl
theorem nodup_len {r : List Int} {m : Int} (nd : r.Nodup) (h : ∀ x ∈ r, 0 ≤ x ∧ x < m) : r.length ≤ m.toNat := nodup_le m.toNat r nd fun x hx => by have := h x hx; omega
structure TaleW (t : Tale) : Prop where
  m1 : t.many ≤ 3000
  times : ∀ x ∈ t.times, ∃ a b, x = [a, b]
  timesL : t.times.length ≤ 3000
  rows1 : t.rows.length ≤ 6
  row : ∀ r ∈ t.rows, r.length ≤ 3000
  looks : ∀ x ∈ t.looks, lookOk t.many t.rows x
  looksL : t.looks.length ≤ 6000
theorem Tale.Ok.w {t : Tale} {most : Int} (h : t.Ok most) (hm : most ≤ 3000) : TaleW t where
  m1 := by have := h.m1; omega
  times x hx := by obtain ⟨a, b, e, _⟩ := h.times x hx; exact ⟨a, b, e⟩
  timesL := by have := h.m1; have := h.timesL; omega
  rows1 := h.rows1
  row r hr := by
    obtain ⟨h1, h2⟩ := h.row r hr
    have := nodup_len h1 h2
    have := h.m1
    omega
  looks := h.looks
  looksL := by have := h.m1; have := h.looksL; omega
noncomputable def lookK (t : Tale) (a x s : Int) (k : List Int) : Prop := (s ≠ -1 ∧ k = [s, a]) ∨ ∃ r b, t.rows[x.toNat]? = some r ∧ nextW r s = some b ∧ a ≠ b ∧ k = [a, b]
noncomputable def MustL (t : Tale) (ps : List (List Int)) : Prop := (∀ x, x ∈ ps ↔ ∃ a b, x = [a, b] ∧ Must t a b) ∧ ps.Nodup ∧ srtN ps ∧ ps.length ≤ 33000
theorem musts_ok {T : Tbl} (hg : T.glob 17 = .d (.int (-1))) (h9 : T.fn 159 = some f_next_writer) (hT : T.fn 160 = some f_musts) (n : Nat) {S : Hs} {t : Tale} {Q : VK2} (h : TaleW t)
    (w : ∀ (ps : List (List Int)) (a : Addr) (kvs : List (D × D)), S a = none → MustL t ps → Q (.vl (ps.map tupI)) (su S a (.dn kvs))) : cal T (n + 2) 160 [.d t.d] S Q := by
  refine ⟨_, hT, rfl, rfl, ?_⟩
  have hw := fun (S : Hs) (r : List Int) (s : Int) (Q : VK2) (z : s = -1 ∨ s ∈ r) q => next_writer_ok hg h9 n (S := S) (r := r) (s := s) (Q := Q) z q
  generalize cal T (n + 1) = c at hw ⊢
  refine ⟨_, rfl, ⟨_, rfl, ⟨_, rfl, ?_⟩⟩⟩
  intro da hda
  refine ⟨_, rfl, ?_⟩
  have put : ∀ (ts : List (List Int × Bool)) (x : List Int), (ts.length : Nat) ≤ 40000 → mutC .setI (O.dn (encN D.bl ts)).cn [.d (tupI x), .d (.bl true)] S (fun c _ => c = .kn (encN D.bl (nput ts x true))) := fun ts x hl =>
    ⟨keyN_tupI x, by show (ts.map _).length < sizeLine; rw [List.length_map]; exact Nat.lt_of_lt_of_le (show ts.length < 40001 by omega) (by decide), congrArg Cn.kn (dput_encN (f := D.bl) ts x true)⟩
  -- the times
  refine forL_map' tupI t.times rfl (fun rest σ S' => ∃ (pre : List (List Int)) (ts : List (List Int × Bool)) (s6 : Option Vx), t.times = pre ++ rest ∧ σ = [some (.d t.d), some (.d (.int t.many)), some (.d (.tup (t.times.map tupI))), some (.d (.tup (t.rows.map xtI))), some (.d (.tup (t.looks.map tupI))), some (.d (.ref da)), s6, none, none, none, none, none, none] ∧
    S' = su S da (.dn (encN D.bl ts)) ∧ MK ts (fun k => k ∈ pre) ∧ ts.length + rest.length ≤ 3000) (fun _ _ _ _ => trivial) ?_ ?_ _ _ ⟨[], [], none, rfl, rfl, rfl, ⟨List.nodup_nil, fun k => by simp⟩, by have := h.timesL; simpa using this⟩
  case refine_2 =>
    rintro x rest hx _ kk σ S' hk ⟨pre, ts, s6, e, rfl, rfl, mk, hl⟩
    refine ⟨_, rfl, ⟨_, rfl, ⟨_, _, _, rfl, su_same, rfl, ?_⟩⟩⟩
    obtain ⟨z1, z2, z3⟩ := put ts x (by simp at hl; omega)
    refine ⟨z1, z2, _, rfl, hk _ _ ⟨pre ++ [x], nput ts x true, _, by rw [e]; simp, rfl, ?_, (mk.put x).of fun k => by simp, ?_⟩⟩
    · rw [su_su]; exact congrArg (fun z => su S da (.dn z)) (dput_encN (f := D.bl) ts x true)
    · have := nput_len (kvs := ts) (x := x) (y := true)
      simp at hl ⊢; omega
  rintro σ S1 ⟨pre1, ts1, s6, e1, rfl, rfl, mk1, hl1⟩
  rw [List.append_nil] at e1
  subst e1
  simp only [List.length_nil, Nat.add_zero] at hl1
  -- the rows
  refine ⟨_, rfl, ?_⟩
  refine forL_map' xtI t.rows rfl (fun rest σ S' => ∃ (pre : List (List Int)) (ts : List (List Int × Bool)) (s6 s7 s8 : Option Vx), t.rows = pre ++ rest ∧ σ = [some (.d t.d), some (.d (.int t.many)), some (.d (.tup (t.times.map tupI))), some (.d (.tup (t.rows.map xtI))), some (.d (.tup (t.looks.map tupI))), some (.d (.ref da)), s6, s7, s8, none, none, none, none] ∧
    S' = su S da (.dn (encN D.bl ts)) ∧ MK ts (fun k => k ∈ t.times ∨ ∃ r ∈ pre, ∃ a b, k = [a, b] ∧ Nxt r a b) ∧ ts.length + rest.length * 3000 ≤ 21000) (fun _ _ _ _ => trivial) ?_ ?_ _ _ ⟨[], ts1, _, _, _, rfl, rfl, rfl, mk1.of fun k => by simp, by have := h.rows1; omega⟩
  case refine_2 =>
    rintro r rest hr _ kk σ S' hk ⟨pre, ts, s6, s7, s8, e, rfl, rfl, mk, hl⟩
    have hrl := h.row r hr
    refine ⟨_, rfl, ?_⟩
    refine ⟨_, rfl, ⟨_, rfl, ⟨_, rfl, ⟨rfl, trivial, ?_⟩⟩⟩⟩
    show forL _ _ _ _ (zipD (r.map D.int) (cutI (r.map D.int) (some 1) none)) _ _
    rw [cut1_ints, zipD_ints]
    refine forL_map' (fun p : Int × Int => .tup [.int p.1, .int p.2]) (r.zip (r.drop 1)) rfl (fun rest2 σ S' => ∃ (pre2 : List (Int × Int)) (ts : List (List Int × Bool)) (s6 s8 : Option Vx), r.zip (r.drop 1) = pre2 ++ rest2 ∧ σ = [some (.d t.d), some (.d (.int t.many)), some (.d (.tup (t.times.map tupI))), some (.d (.tup (t.rows.map xtI))), some (.d (.tup (t.looks.map tupI))), some (.d (.ref da)), s6, some (.d (xtI r)), s8, none, none, none, none] ∧
      S' = su S da (.dn (encN D.bl ts)) ∧ MK ts (fun k => (k ∈ t.times ∨ ∃ r ∈ pre, ∃ a b, k = [a, b] ∧ Nxt r a b) ∨ ∃ p ∈ pre2, k = [p.1, p.2]) ∧ ts.length + rest2.length + rest.length * 3000 ≤ 21000) (fun _ _ _ _ => ⟨trivial, trivial⟩) ?_ ?_ _ _ ⟨[], ts, _, _, rfl, rfl, rfl, mk.of fun k => by simp, ?_⟩
    · rintro σ S' ⟨pre2, ts, s6, s8, e2, rfl, rfl, mk, hl⟩
      rw [List.append_nil] at e2
      refine hk _ _ ⟨pre ++ [r], ts, _, _, _, by rw [e]; simp, rfl, rfl, mk.of fun k => ?_, by simpa using hl⟩
      constructor
      · rintro ((h | ⟨r', hr', z⟩) | ⟨p, hp, rfl⟩)
        · exact .inl h
        · exact .inr ⟨r', List.mem_append_left _ hr', z⟩
        · exact .inr ⟨r, by simp, p.1, p.2, rfl, zip_nxt.mp (by rw [e2]; exact hp)⟩
      · rintro (h | ⟨r', hr', a, b, rfl, z⟩)
        · exact .inl (.inl h)
        · rcases List.mem_append.mp hr' with hr' | hr'
          · exact .inl (.inr ⟨r', hr', a, b, rfl, z⟩)
          · have er : r' = r := by simpa using hr'
            subst er
            exact .inr ⟨(a, b), by rw [← e2]; exact zip_nxt.mpr z, rfl⟩
    · rintro p rest2 hp _ kk2 σ S' hk2 ⟨pre2, ts, s6, s8, e2, rfl, rfl, mk, hl⟩
      refine ⟨_, rfl, ?_⟩
      refine ⟨_, rfl, ⟨_, rfl, ⟨_, rfl, ⟨_, rfl, Nat.le_of_ble_eq_true rfl, ⟨_, _, _, rfl, su_same, rfl, ?_⟩⟩⟩⟩⟩
      obtain ⟨z1, z2, z3⟩ := put ts [p.1, p.2] (by simp at hl; omega)
      refine ⟨z1, z2, _, rfl, hk2 _ _ ⟨pre2 ++ [p], nput ts [p.1, p.2] true, _, _, by rw [e2]; simp, rfl, ?_, (mk.put [p.1, p.2]).of fun k => ?_, ?_⟩⟩
      · rw [su_su]; exact congrArg (fun z => su S da (.dn z)) (dput_encN (f := D.bl) ts [p.1, p.2] true)
      · simp only [List.mem_append, List.mem_singleton]
        constructor
        · rintro ((h | ⟨q, hq, e⟩) | e)
          · exact .inl h
          · exact .inr ⟨q, .inl hq, e⟩
          · exact .inr ⟨p, .inr rfl, e⟩
        · rintro (h | ⟨q, hq | rfl, e⟩)
          · exact .inl (.inl h)
          · exact .inl (.inr ⟨q, hq, e⟩)
          · exact .inr e
      · have := nput_len (kvs := ts) (x := [p.1, p.2]) (y := true)
        simp at hl ⊢; omega
    · have hz : (r.zip (r.drop 1)).length ≤ r.length := by rw [List.length_zip]; exact Nat.min_le_left _ _
      simp at hl; omega
  rintro σ S2 ⟨pre2, ts2, s6', s7, s8, e2, rfl, rfl, mk2, hl2⟩
  rw [List.append_nil] at e2
  subst e2
  simp only [List.length_nil, Nat.zero_mul, Nat.add_zero] at hl2
  -- the looks
  refine ⟨_, rfl, ?_⟩
  refine forL_map' tupI t.looks rfl (fun rest σ S' => ∃ (pre : List (List Int)) (ts : List (List Int × Bool)) (s6 s7 s8 s9 s10 s11 s12 : Option Vx), t.looks = pre ++ rest ∧ σ = [some (.d t.d), some (.d (.int t.many)), some (.d (.tup (t.times.map tupI))), some (.d (.tup (t.rows.map xtI))), some (.d (.tup (t.looks.map tupI))), some (.d (.ref da)), s6, s7, s8, s9, s10, s11, s12] ∧
    S' = su S da (.dn (encN D.bl ts)) ∧ MK ts (fun k => (k ∈ t.times ∨ ∃ r ∈ t.rows, ∃ a b, k = [a, b] ∧ Nxt r a b) ∨ ∃ a x s, [a, x, s] ∈ pre ∧ lookK t a x s k) ∧ ts.length + 2 * rest.length ≤ 33000) (fun _ _ _ _ => trivial) ?_ ?_ _ _ ⟨[], ts2, _, _, _, _, _, _, _, rfl, rfl, rfl, mk2.of fun k => by simp, by have := h.looksL; omega⟩
  case refine_2 =>
    rintro x rest hx _ kk σ S' hk ⟨pre, ts, s6, s7, s8, s9, s10, s11, s12, e, rfl, rfl, mk, hl⟩
    obtain ⟨a, b, s, r, rfl, ha, b0, hr, hs⟩ := h.looks x hx
    refine ⟨_, rfl, ?_⟩
    -- behind the first store
    have go : ∀ (ts' : List (List Int × Bool)), MK ts' (fun k => ((k ∈ t.times ∨ ∃ r ∈ t.rows, ∃ a b, k = [a, b] ∧ Nxt r a b) ∨ ∃ a x s, [a, x, s] ∈ pre ∧ lookK t a x s k) ∨ (s ≠ -1 ∧ k = [s, a])) → ts'.length ≤ ts.length + 1 →
        wpS T c (.seq (.set 12 (.call 159 (.cons (.o2 .idx (.v 3) (.v 10)) (.cons (.v 11) .nil)))) (.seq (.box 12) (.iff (.and (.o2 .isnt (.v 12) .n) (.one (.o2 .ne (.v 12) (.v 9)))) (.seti (.v 5) (.tup (.consb (.v 9) (.consb (.v 12) .nil))) (.b true)) .skip)))
          [some (.d t.d), some (.d (.int t.many)), some (.d (.tup (t.times.map tupI))), some (.d (.tup (t.rows.map xtI))), some (.d (.tup (t.looks.map tupI))), some (.d (.ref da)), s6, s7, s8, some (.d (.int a)), some (.d (.int b)), some (.d (.int s)), s12] (su S da (.dn (encN D.bl ts'))) kk
          (fun x S' => Q x S') kk kk := by
      intro ts' mk' hl'
      refine ⟨_, rfl, ⟨_, rfl, ⟨_, getI_row b0 hr, ⟨_, rfl, hw _ r s _ (hs.imp id fun z => z.1) ?_⟩⟩⟩⟩
      have skp : (∀ b', nextW r s = some b' → a = b') → kk [some (.d t.d), some (.d (.int t.many)), some (.d (.tup (t.times.map tupI))), some (.d (.tup (t.rows.map xtI))), some (.d (.tup (t.looks.map tupI))), some (.d (.ref da)), s6, s7, s8, some (.d (.int a)), some (.d (.int b)), some (.d (.int s)), some (.d (match nextW r s with | some b => .int b | none => .non))] (su S da (.dn (encN D.bl ts'))) := fun hno =>
        hk _ _ ⟨pre ++ [[a, b, s]], ts', _, _, _, _, _, _, _, by rw [e]; simp, rfl, rfl, mk'.of fun k => by
          have e1 : (∃ a' x' s', [a', x', s'] ∈ pre ++ [[a, b, s]] ∧ lookK t a' x' s' k) ↔ (∃ a' x' s', [a', x', s'] ∈ pre ∧ lookK t a' x' s' k) ∨ lookK t a b s k := by
            constructor
            · rintro ⟨a', x', s', hm, hq⟩
              rcases List.mem_append.mp hm with hm | hm
              · exact .inl ⟨a', x', s', hm, hq⟩
              · have hm : [a', x', s'] = [a, b, s] := by simpa using hm
                cases hm; exact .inr hq
            · rintro (⟨a', x', s', hm, hq⟩ | hq)
              · exact ⟨a', x', s', List.mem_append_left _ hm, hq⟩
              · exact ⟨a, b, s, by simp, hq⟩
          rw [e1]
          have e2 : lookK t a b s k ↔ (s ≠ -1 ∧ k = [s, a]) := by
            unfold lookK
            constructor
            · rintro (z | ⟨r', b', h1, h2, h3, h4⟩)
              · exact z
              · rw [hr] at h1; cases h1
                exact (h3 (hno b' h2)).elim
            · exact .inl
          rw [e2, or_assoc], by simp at hl; omega⟩
      refine ⟨_, rfl, ?_⟩
      refine ⟨_, rfl, ?_⟩
      cases hq : nextW r s with
      | none =>
        rw [hq] at skp
        exact ⟨true, rfl, Br.ff (Br.ff (skp fun b2 z => by cases z))⟩
      | some b' =>
        rw [hq] at skp
        refine ⟨false, rfl, Br.tt ⟨_, rfl, ⟨_, rfl, ⟨rfl, rfl, Br.of (decide (b' ≠ a)) ?_ ?_⟩⟩⟩⟩
        · show (!decide (b' = a)) = _
          by_cases z : b' = a <;> simp [z]
        · split
          · rename_i q
            have q := of_decide_eq_true q
            refine ⟨_, rfl, ⟨_, rfl, ⟨_, rfl, ⟨_, rfl, Nat.le_of_ble_eq_true rfl, ⟨_, _, _, rfl, su_same, rfl, ?_⟩⟩⟩⟩⟩
            obtain ⟨z1, z2, z3⟩ := put ts' [a, b'] (by simp at hl; omega)
            refine ⟨z1, z2, _, rfl, hk _ _ ⟨pre ++ [[a, b, s]], nput ts' [a, b'] true, _, _, _, _, _, _, _, by rw [e]; simp, rfl, ?_, (mk'.put [a, b']).of fun k => ?_, ?_⟩⟩
            · rw [su_su]; exact congrArg (fun z => su S da (.dn z)) (dput_encN (f := D.bl) ts' [a, b'] true)
            · have e1 : (∃ a' x' s', [a', x', s'] ∈ pre ++ [[a, b, s]] ∧ lookK t a' x' s' k) ↔ (∃ a' x' s', [a', x', s'] ∈ pre ∧ lookK t a' x' s' k) ∨ lookK t a b s k := by
                constructor
                · rintro ⟨a', x', s', hm, hq⟩
                  rcases List.mem_append.mp hm with hm | hm
                  · exact .inl ⟨a', x', s', hm, hq⟩
                  · have hm : [a', x', s'] = [a, b, s] := by simpa using hm
                    cases hm; exact .inr hq
                · rintro (⟨a', x', s', hm, hq⟩ | hq)
                  · exact ⟨a', x', s', List.mem_append_left _ hm, hq⟩
                  · exact ⟨a, b, s, by simp, hq⟩
              rw [e1]
              have e2 : lookK t a b s k ↔ (s ≠ -1 ∧ k = [s, a]) ∨ k = [a, b'] := by
                unfold lookK
                constructor
                · rintro (z | ⟨r', b2, h1, h2, h3, h4⟩)
                  · exact .inl z
                  · rw [hr] at h1; cases h1
                    rw [hq] at h2; cases h2
                    exact .inr h4
                · rintro (z | z)
                  · exact .inl z
                  · exact .inr ⟨r, b', hr, hq, fun z => q z.symm, z⟩
              rw [e2, or_assoc, or_assoc]
            · have := nput_len (kvs := ts') (x := [a, b']) (y := true)
              simp at hl ⊢; omega
          · rename_i q
            have q : b' = a := by
              by_cases z : b' = a
              · exact z
              · exact (q (decide_eq_true z)).elim
            exact skp fun b2 z => by cases z; exact q.symm
    refine ⟨_, rfl, one1_i (wpg (c := c) hg (one1_i ⟨rfl, rfl, Br.of (decide (s ≠ -1)) ?_ ?_⟩))⟩
    · show (!decide (s = -1)) = _
      by_cases q : s = -1 <;> simp [q]
    · split
      · rename_i q
        have q := of_decide_eq_true q
        refine ⟨_, rfl, ⟨_, rfl, ⟨_, rfl, ⟨_, rfl, Nat.le_of_ble_eq_true rfl, ⟨_, _, _, rfl, su_same, rfl, ?_⟩⟩⟩⟩⟩
        obtain ⟨z1, z2, z3⟩ := put ts [s, a] (by simp at hl; omega)
        refine ⟨z1, z2, _, rfl, ?_⟩
        rw [su_su]
        have := go (nput ts [s, a] true) ((mk.put [s, a]).of fun k => by simp [q]) nput_len
        have e3 : (O.dn (encN D.bl (nput ts [s, a] true))) = O.dn (dput (encN D.bl ts) (tupI [s, a]) (.bl true)) := congrArg O.dn (dput_encN (f := D.bl) ts [s, a] true).symm
        rw [e3] at this
        exact this
      · rename_i q
        have q : s = -1 := by
          by_cases z : s = -1
          · exact z
          · exact (q (decide_eq_true z)).elim
        exact go ts (mk.of fun k => by simp [q]) (Nat.le_succ _)
  rintro σ S3 ⟨pre3, ts, s6'', s7', s8', s9, s10, s11, s12, e3, rfl, rfl, mk, hl⟩
  rw [List.append_nil] at e3
  subst e3
  have key : ∀ k, k ∈ ts.map Prod.fst ↔ ∃ a b, k = [a, b] ∧ Must t a b := fun k => by
    rw [mk.mem]
    constructor
    · rintro ((z | ⟨r, hr, a, b, rfl, z⟩) | ⟨a, x, s, hm, z | ⟨r, b, h1, h2, h3, rfl⟩⟩)
      · obtain ⟨a, b, rfl⟩ := h.times k z
        exact ⟨a, b, rfl, .inl z⟩
      · exact ⟨a, b, rfl, .inr (.inl ⟨r, hr, z⟩)⟩
      · obtain ⟨z1, rfl⟩ := z
        exact ⟨s, a, rfl, .inr (.inr (.inl ⟨z1, x, hm⟩))⟩
      · exact ⟨a, b, rfl, .inr (.inr (.inr ⟨h3, x, s, r, hm, h1, h2⟩))⟩
    · rintro ⟨a, b, rfl, z | ⟨r, hr, z⟩ | ⟨z, x, hm⟩ | ⟨z, x, s, r, hm, h1, h2⟩⟩
      · exact .inl (.inl z)
      · exact .inl (.inr ⟨r, hr, a, b, rfl, z⟩)
      · exact .inr ⟨b, x, a, hm, .inl ⟨z, rfl⟩⟩
      · exact .inr ⟨a, x, s, hm, .inr ⟨r, b, h1, h2, z, rfl⟩⟩
  refine ⟨_, rfl, ⟨_, su_same, ⟨_, ts.map Prod.fst, rfl, by unfold encN; rw [List.map_map, List.map_map]; rfl, fun q hq => ?_, fun qs pm hs => w qs da _ hda ⟨fun x => (pm.mem_iff).trans (key x), (pm.nodup_iff).mpr mk.nd, hs, by rw [pm.length_eq, List.length_map]; simpa using hl⟩⟩⟩⟩
  obtain ⟨a, b, e, _⟩ := (key q).mp hq
  rw [e]; simp
end LU
namespace LU
open PySem L2 PySem.Spec PyProof.Rows DL LW Classical
noncomputable def Ex (S S' : Hs) : Prop := ∀ b o, S b = some o → S' b = some o
theorem Ex.refl {S : Hs} : Ex S S := fun _ _ h => h
theorem Ex.new {S S' : Hs} {a : Addr} {o : O} (h : Ex S S') (n : S' a = none) : Ex S (su S' a o) := fun b u e => by
  have := h b u e
  rw [su_ne]; exact this
  rintro rfl; rw [n] at this; cases this
theorem Ex.trans {S S' S'' : Hs} (h : Ex S S') (k : Ex S' S'') : Ex S S'' := fun b o e => k b o (h b o e)
noncomputable def MustIn (t : Tale) : Prop := ∀ a b, Must t a b → (0 ≤ a ∧ a < t.many) ∧ (0 ≤ b ∧ b < t.many)
theorem Tale.Ok.must {t : Tale} {most : Int} (h : t.Ok most) : MustIn t := by
  rintro a b (z | ⟨r, hr, p, q, e⟩ | ⟨z, x, hm⟩ | ⟨z, x, s, r, hm, h1, h2⟩)
  · obtain ⟨a', b', e, _, h1, h2⟩ := h.times _ z
    cases e; exact ⟨h1, h2⟩
  · have := (h.row r hr).2
    exact ⟨this a (by rw [e]; simp), this b (by rw [e]; simp)⟩
  · obtain ⟨a', b', s', r, e, h1, _, h2, h3⟩ := h.looks _ hm
    cases e
    exact ⟨(h.row r (List.mem_of_getElem? h2)).2 a (h3.resolve_left z).1, h1⟩
  · obtain ⟨a', b', s', r', e, g1, _, g2, g3⟩ := h.looks _ hm
    cases e
    exact ⟨g1, (h.row r (List.mem_of_getElem? h1)).2 b (nextW_mem h2)⟩
noncomputable def OrdP (t : Tale) (l : List Int) : Prop := l.Perm (upTo t.many) ∧ ∀ a b, Must t a b → l.idxOf a < l.idxOf b
theorem upTo_sorted (m : Int) : (upTo m).Pairwise (· ≤ ·) := by
  unfold upTo
  rw [List.pairwise_map]
  exact List.pairwise_lt_range.imp fun h => by omega
theorem pls_tupI (n : Nat) : ∀ (l : List (List Int)), pls (n + 1) (l.map tupI) = true
  | [] => by simp [pls]
  | x :: l => by
    show (pl (n + 1) (tupI x) && pls (n + 1) (l.map tupI)) = true
    rw [pls_tupI n l, Bool.and_true]
    exact pls_ints n x
theorem any_tupI (l : List (List Int)) (x : List Int) : ((l.map tupI).any fun y => eqB y (tupI x)) = decide (x ∈ l) := by
  induction l with
  | nil => rfl
  | cons y l ih =>
    rw [List.map_cons, List.any_cons, ih, eqB_tupI]
    by_cases h : y = x
    · subst h; simp
    · have : ¬ x = y := fun z => h z.symm
      simp [h, this]
theorem is_tale_order_ok {T : Tbl} (hg : T.glob 17 = .d (.int (-1))) (h9 : T.fn 159 = some f_next_writer) (h60 : T.fn 160 = some f_musts) (hT : T.fn 167 = some f_is_tale_order) (n : Nat) {S : Hs} {t : Tale} {l : List Int} {Q : VK2} (h : TaleW t) (hm : MustIn t)
    (hl : l.length ≤ 3000) (hm0 : 0 ≤ t.many) (w : ∀ S', Ex S S' → Q (.d (.bl (decide (OrdP t l)))) S') : cal T (n + 3) 167 [.d t.d, .bw (l.map D.int)] S Q := by
  refine ⟨_, hT, rfl, rfl, ?_⟩
  have hmu := fun (S : Hs) (Q : VK2) q => musts_ok hg h9 h60 n (S := S) (t := t) (Q := Q) h q
  generalize cal T (n + 2) = c at hmu ⊢
  refine ⟨_, rfl, ⟨l, .inl rfl, fun ns pm hs => ?_⟩⟩
  have m1 := h.m1
  refine ⟨_, rfl, ⟨_, rfl, ⟨_, rfl, by omega, by omega, ?_⟩⟩⟩
  rw [rngD_ints]
  refine ⟨.inr ⟨pls_ints _ _, pls_ints _ _⟩, Br.of (decide (¬ ns = upTo t.many)) ?_ ?_⟩
  · show (!eqBs (ns.map D.int) ((upTo t.many).map D.int)) = _
    rw [eqBs_ints]
    by_cases z : ns = upTo t.many <;> simp [z]
  split
  · rename_i z
    have z := of_decide_eq_true z
    have : ¬ OrdP t l := fun q => z ((pm.trans q.1).eq_of_pairwise (le := fun x y => x ≤ y) (fun a b _ _ h1 h2 => by omega) hs (upTo_sorted _))
    have e := w S .refl
    rw [decide_eq_false this] at e
    exact e
  rename_i z
  have z : ns = upTo t.many := by
    by_cases q : ns = upTo t.many
    · exact q
    · exact (z (decide_eq_true q)).elim
  subst z
  have pm : l.Perm (upTo t.many) := pm.symm
  have nd : l.Nodup := pm.nodup_iff.mpr (upTo_nodup _)
  have mem : ∀ x, x ∈ l ↔ 0 ≤ x ∧ x < t.many := fun x => pm.mem_iff.trans upTo_mem
  refine ⟨_, rfl, ?_⟩
  refine forL_enum' D.int l rfl (fun n rest σ S' => ∃ (kvs : List (Int × Int)) (s3 s4 : Option Vx), σ = [some (.d t.d), some (.bw (l.map D.int)), some (.vd (encI D.int kvs)), s3, s4, none, none] ∧ S' = S ∧
    (∀ x ∈ l, pget kvs x = if l.idxOf x < n then some (l.idxOf x : Int) else none) ∧ (∃ pre, l = pre ++ rest ∧ pre.length = n) ∧ kvs.length ≤ n) (fun _ _ _ _ _ => trivial) ?_ ?_ _ _ ⟨[], _, _, rfl, rfl, fun x _ => by simp [pget], ⟨[], rfl, rfl⟩, Nat.le_refl _⟩
  case refine_2 =>
    rintro n x rest hx kk σ S' hk ⟨kvs, s3, s4, rfl, rfl, hkv, ⟨pre, epre, npre⟩, hln⟩
    have hix : l.idxOf x = n := by
      have nn : n < l.length := by rw [epre, ← npre]; simp
      have e : l[n] = x := by simp [epre, ← npre]
      rw [← e, nd.idxOf_getElem]
    have nl : n ≤ 3000 := by
      rw [epre, List.length_append] at hl; omega
    refine ⟨_, rfl, ⟨_, rfl, ⟨_, rfl, ⟨_, rfl, ⟨_, rfl, ⟨rfl, ?_, ?_⟩⟩⟩⟩⟩⟩
    · show (kvs.map _).length < sizeLine
      rw [List.length_map]
      exact Nat.lt_of_lt_of_le (show kvs.length < 3001 by omega) (by decide)
    · refine hk _ _ ⟨pput kvs x n, some (.d (.int n)), some (.d (.int x)), ?_, rfl, fun z hz => ?_, ⟨pre ++ [x], by rw [epre]; simp, by simp [npre]⟩, Nat.le_trans pput_len (by omega)⟩
      · exact congrArg (fun z => [some (.d t.d), some (.bw (l.map D.int)), some (Vx.vd z), some (.d (.int n)), some (.d (.int x)), none, none]) (dput_enc (f := D.int) kvs x (n : Int))
      · rw [pget_put]
        by_cases e : x = z
        · subst e; rw [if_pos rfl, hix, if_pos (Nat.lt_succ_self _)]
        · rw [if_neg e, hkv z hz]
          have : l.idxOf z ≠ n := fun q => e (idx_inj hx hz (hix.trans q.symm))
          by_cases q : l.idxOf z < n
          · rw [if_pos q, if_pos (by omega)]
          · rw [if_neg q, if_neg (by omega)]
  rintro m σ S' ⟨kvs, s3, s4, rfl, rfl, hkv, ⟨pre, epre, npre⟩, hln⟩
  have hkv : ∀ x ∈ l, dget (encI D.int kvs) (.int x) = some (.int (l.idxOf x : Nat)) := fun x hx => by
    have hm : l.idxOf x < m := by
      have := List.idxOf_lt_length_iff.mpr hx
      rw [epre] at this
      simp at this; rw [epre]; simp; omega
    rw [dget_enc, hkv x hx, if_pos hm]; rfl
  refine ⟨_, rfl, hmu _ _ fun ps a kvs2 ha ⟨p1, p2, p3, p4⟩ => ?_⟩
  have plen : ps.length ≤ sizeLine := Nat.le_trans p4 (by decide)
  refine compL_fm' tupI (fun x => match x with | [u, v] => some (.bl (decide (l.idxOf u < l.idxOf v))) | _ => none) ps rfl trivial (fun x hx P1 P2 h1 h2 => ?_) plen ?_
  · obtain ⟨u, v, rfl, hq⟩ := (p1 x).mp hx
    obtain ⟨hu, hv⟩ := hm u v hq
    refine ⟨_, rfl, Br.tt ⟨_, rfl, ⟨_, rfl, ⟨rfl, ⟨_, hkv u ((mem u).mpr hu), ⟨_, rfl, ⟨_, rfl, ⟨rfl, ⟨_, hkv v ((mem v).mpr hv), ?_⟩⟩⟩⟩⟩⟩⟩⟩⟩
    have := h1 _ rfl
    have e : decide (((l.idxOf u : Nat) : Int) < ((l.idxOf v : Nat) : Int)) = decide (l.idxOf u < l.idxOf v) := by
      by_cases z : l.idxOf u < l.idxOf v <;> simp [z]
    show P1 (.bl (decide (((l.idxOf u : Nat) : Int) < ((l.idxOf v : Nat) : Int)))) _
    rw [e]; exact this
  · have e : ps.filterMap (fun x => match x with | [u, v] => some (D.bl (decide (l.idxOf u < l.idxOf v))) | _ => none) = (ps.map fun x => decide (l.idxOf (x.getD 0 0) < l.idxOf (x.getD 1 0))).map D.bl := by
      rw [List.map_map]
      have : ∀ (qs : List (List Int)), (∀ x ∈ qs, ∃ u v, x = [u, v]) → qs.filterMap (fun x => match x with | [u, v] => some (D.bl (decide (l.idxOf u < l.idxOf v))) | _ => none) = qs.map (D.bl ∘ fun x => decide (l.idxOf (x.getD 0 0) < l.idxOf (x.getD 1 0))) := by
        intro qs
        induction qs with
        | nil => intro _; rfl
        | cons x qs ih =>
          intro hq
          obtain ⟨u, v, rfl⟩ := hq x List.mem_cons_self
          rw [List.filterMap_cons, List.map_cons, ih fun y hy => hq y (List.mem_cons_of_mem _ hy)]
          rfl
      exact this ps fun x hx => by obtain ⟨u, v, e, _⟩ := (p1 x).mp hx; exact ⟨u, v, e⟩
    refine ⟨_, _, rfl, e, ?_⟩
    have e2 : (ps.map fun x => decide (l.idxOf (x.getD 0 0) < l.idxOf (x.getD 1 0))).all id = decide (OrdP t l) := by
      rw [List.all_map]
      rw [Bool.eq_iff_iff, List.all_eq_true, decide_eq_true_iff]
      constructor
      · intro q
        refine ⟨pm, fun a b hab => ?_⟩
        have := q [a, b] ((p1 _).mpr ⟨a, b, rfl, hab⟩)
        simpa using this
      · rintro ⟨_, q⟩ x hx
        obtain ⟨u, v, rfl, hq⟩ := (p1 x).mp hx
        simpa using q u v hq
    rw [e2]
    exact w _ (Ex.refl.new ha)
theorem nodup_sub' : ∀ {l m : List Int}, l.Nodup → (∀ x ∈ l, x ∈ m) → l.length ≤ m.length
  | [], _, _, _ => Nat.zero_le _
  | x :: l, m, nd, h => by
    have nd := List.nodup_cons.mp nd
    have hx : x ∈ m := h x List.mem_cons_self
    have := nodup_sub' (m := m.erase x) nd.2 fun y hy => (List.mem_erase_of_ne fun e => nd.1 (by rw [← e]; exact hy)).mpr (h y (List.mem_cons_of_mem _ hy))
    rw [List.length_erase_of_mem hx] at this
    have : 0 < m.length := List.length_pos_of_mem hx
    simp; omega
theorem nodup_of_len {ms l : List Int} (nd : ms.Nodup) (h : ∀ y, y ∈ ms → y ∈ l) (e : ms.length = l.length) : l.Nodup := by
  induction l generalizing ms with
  | nil => exact List.nodup_nil
  | cons x l ih =>
    have hx : x ∈ ms := Classical.byContradiction fun q => by
      have := nodup_sub' nd (m := l) fun y hy => by
        rcases List.mem_cons.mp (h y hy) with rfl | z
        · exact (q hy).elim
        · exact z
      simp at e; omega
    have nd2 : (ms.erase x).Nodup := nd.erase x
    have sub : ∀ y, y ∈ ms.erase x → y ∈ l := fun y hy => by
      have hy2 := (nd.mem_erase_iff).mp hy
      rcases List.mem_cons.mp (h y hy2.2) with z | z
      · exact (hy2.1 z).elim
      · exact z
    have l2 : (ms.erase x).length = l.length := by rw [List.length_erase_of_mem hx, e]; simp
    refine List.nodup_cons.mpr ⟨fun hxl => ?_, ih nd2 sub l2⟩
    have := nodup_sub' nd2 (m := l.erase x) fun y hy => by
      have hy2 := (nd.mem_erase_iff).mp hy
      exact (List.mem_erase_of_ne hy2.1).mpr (sub y hy)
    rw [List.length_erase_of_mem hxl, l2] at this
    have : 0 < l.length := List.length_pos_of_mem hxl
    omega
noncomputable def RingP (t : Tale) (l : List Int) : Prop := l ≠ [] ∧ l.Nodup ∧ ∀ a b, (a, b) ∈ l.zip (l.drop 1 ++ l.take 1) → Must t a b
noncomputable def LX (x : Vx) (ds : List D) (S : Hs) : Prop := x = .bw ds ∨ ∃ a, x = .d (.ref a) ∧ S a = some (.lst ds)
theorem LX.ex {x : Vx} {ds : List D} {S S' : Hs} (h : LX x ds S) (k : Ex S S') : LX x ds S' := h.imp id fun ⟨a, e, z⟩ => ⟨a, e, k _ _ z⟩
theorem LX.bor {x : Vx} {ds : List D} {S : Hs} (h : LX x ds S) : bor x = x := by
  rcases h with rfl | ⟨a, rfl, _⟩ <;> rfl
theorem LX.own {x : Vx} {ds : List D} {S : Hs} (h : LX x ds S) : own x = false := by
  rcases h with rfl | ⟨a, rfl, _⟩ <;> rfl
theorem LX.view {x : Vx} {ds : List D} {S : Hs} {K : Cn → Prop} (h : LX x ds S) (k : K (.l ds)) : view x S K := by
  rcases h with rfl | ⟨a, rfl, z⟩
  · exact k
  · exact ⟨_, z, k⟩
theorem LX.src {x : Vx} {ds : List D} {S : Hs} {K : It2 → Hs → Prop} (h : LX x ds S) (k : ∀ ok : Sl → Hs → Prop, (∀ σ S', LX x ds S' → ok σ S') → K ⟨ds, ok, false⟩ S) : srcX true x S K := by
  rcases h with rfl | ⟨a, rfl, z⟩
  · exact k _ fun _ _ _ => trivial
  · refine ⟨ds, z, k _ fun _ S' h => ?_⟩
    rcases h with h | ⟨b, e, h⟩
    · cases h
    · cases e; exact h
theorem LX.eqNil {x : Vx} {l : List Int} {S : Hs} {K : Bool → Prop} (h : LX x (l.map D.int) S) (k : K (decide (l = []))) : eqD x (.vl []) S K := by
  have e : eqBs (l.map D.int) [] = decide (l = []) := eqBs_ints l []
  rcases h with rfl | ⟨a, rfl, z⟩
  · exact ⟨.inl rfl, by rw [e]; exact k⟩
  · exact ⟨_, z, .inl rfl, by show K (eqBs (l.map D.int) []); rw [e]; exact k⟩
theorem cut_1 (l : List Int) : cutI (l.map D.int) none (some 1) = (l.take 1).map D.int := by
  rw [cut_map]
  congr 1
  cases l with
  | nil => rfl
  | cons x l => unfold cutI HT.sIx; simp
theorem is_ring_ok {T : Tbl} (hg : T.glob 17 = .d (.int (-1))) (h9 : T.fn 159 = some f_next_writer) (h60 : T.fn 160 = some f_musts) (hT : T.fn 168 = some f_is_ring) (n : Nat) {S : Hs} {t : Tale} {l : List Int} {x : Vx} {Q : VK2} (h : TaleW t)
    (hx : LX x (l.map D.int) S) (hl : l.length ≤ 3000) (w : ∀ S', Ex S S' → Q (.d (.bl (decide (RingP t l)))) S') : cal T (n + 3) 168 [.d t.d, x] S Q := by
  refine ⟨_, hT, rfl, by show (_ && (!(own x) && true)) = true; rw [hx.own]; rfl, ?_⟩
  have hmu := fun (S : Hs) (Q : VK2) q => musts_ok hg h9 h60 n (S := S) (t := t) (Q := Q) h q
  generalize cal T (n + 2) = c at hmu ⊢
  have hb := hx.bor
  have no : ∀ p : Prop, ¬ p → (RingP t l → p) → Q (.d (.bl false)) S := fun p hp hq => by
    have := w S .refl
    rw [decide_eq_false fun z => hp (hq z)] at this
    exact this
  refine ⟨_, rfl, one1_i ?_⟩
  rw [hb]
  refine ⟨_, rfl, Nat.le_of_ble_eq_true rfl, hx.eqNil (Br.of (decide (l = [])) rfl ?_)⟩
  split
  · rename_i z
    exact Br.tt (no _ (fun q => q (of_decide_eq_true z)) fun q => q.1)
  rename_i z
  have hne : l ≠ [] := fun q => z (decide_eq_true q)
  refine ⟨_, rfl, one1_i ?_⟩
  rw [hb]
  refine hx.view ⟨l, rfl, by omega, fun ms m1 m2 => ?_⟩
  refine ⟨_, rfl, one1_i ?_⟩
  rw [hb]
  refine hx.view ⟨_, rfl, ?_⟩
  have len : (ms.length = l.length) ↔ l.Nodup := by
    constructor
    · intro e
      exact nodup_of_len m1 (fun y => (m2 y).mp) e
    · intro nd
      exact Nat.le_antisymm (nodup_sub' m1 fun y hy => (m2 y).mp hy) (nodup_sub' nd fun y hy => (m2 y).mpr hy)
  refine ⟨rfl, rfl, Br.of (decide (¬ l.Nodup)) ?_ ?_⟩
  · show (!decide ((ms.length : Int) = ((l.map D.int).length : Nat))) = _
    rw [List.length_map]
    by_cases q : l.Nodup
    · have := len.mpr q
      simp [q, this]
    · have : ¬ ms.length = l.length := fun e => q (len.mp e)
      have e2 : ¬ ((ms.length : Int) = (l.length : Int)) := by omega
      simp [q, e2]
  split
  · rename_i z
    exact no _ (of_decide_eq_true z) fun q => q.2.1
  rename_i z
  have nd : l.Nodup := by
    by_cases q : l.Nodup
    · exact q
    · exact (z (decide_eq_true q)).elim
  refine ⟨_, rfl, hmu _ _ fun ps a kvs ha ⟨p1, p2, p3, p4⟩ => ?_⟩
  have ex : Ex S (su S a (.dn kvs)) := Ex.refl.new ha
  have hx2 := hx.ex ex
  generalize su S a (.dn kvs) = S2 at ex hx2 ⊢
  refine ⟨_, rfl, ?_⟩
  refine hx2.src fun ok hok => ?_
  refine ⟨_, rfl, one1_i ?_⟩
  rw [hb]
  refine ⟨_, rfl, ⟨_, rfl, hx2.view ?_⟩⟩
  refine ⟨_, rfl, one1_i ?_⟩
  rw [hb]
  refine ⟨_, rfl, ⟨_, rfl, hx2.view ?_⟩⟩
  show (cutI (l.map D.int) (some 1) none).length + (cutI (l.map D.int) none (some 1)).length ≤ sizeLine ∧ _
  rw [cut1_ints, cut_1]
  refine ⟨by simp; exact Nat.le_trans (show l.length - 1 + min 1 l.length ≤ 4000 by omega) (by decide), ?_⟩
  rw [← List.map_append]
  refine ⟨rfl, hok _ _ hx2, ?_⟩
  show compL _ _ _ _ _ (zipD (l.map D.int) ((l.drop 1 ++ l.take 1).map D.int)) _ _ _
  rw [zipD_ints]
  refine compL_fm' (fun p : Int × Int => .tup [.int p.1, .int p.2]) (fun p => some (.bl (decide ([p.1, p.2] ∈ ps)))) (l.zip (l.drop 1 ++ l.take 1)) rfl ⟨hok _ _ hx2, trivial⟩ (fun p hp P1 P2 h1 h2 => ?_) (by
    have : (l.zip (l.drop 1 ++ l.take 1)).length ≤ l.length := by rw [List.length_zip]; exact Nat.min_le_left _ _
    exact Nat.le_trans (show (l.zip (l.drop 1 ++ l.take 1)).length ≤ 3000 by omega) (by decide)) ?_
  · refine ⟨_, rfl, Br.tt ⟨_, rfl, ⟨_, rfl, ⟨_, rfl, Nat.le_of_ble_eq_true rfl, ⟨_, rfl, ?_⟩⟩⟩⟩⟩
    refine ⟨rfl, pls_tupI 59 ps, ?_⟩
    have := h1 _ rfl
    have e := any_tupI ps [p.1, p.2]
    show P1 (.bl ((ps.map tupI).any fun y => eqB y (tupI [p.1, p.2]))) _
    rw [e]; exact this
  · refine ⟨_, (l.zip (l.drop 1 ++ l.take 1)).map (fun p => decide ([p.1, p.2] ∈ ps)), rfl, by rw [List.map_map, ← List.filterMap_eq_map]; rfl, ?_⟩
    have e2 : ((l.zip (l.drop 1 ++ l.take 1)).map fun p => decide ([p.1, p.2] ∈ ps)).all id = decide (RingP t l) := by
      rw [List.all_map, Bool.eq_iff_iff, List.all_eq_true, decide_eq_true_iff]
      constructor
      · intro q
        refine ⟨hne, nd, fun a b hab => ?_⟩
        have := q (a, b) hab
        obtain ⟨u, v, e, hm⟩ := (p1 [a, b]).mp (by simpa using this)
        cases e; exact hm
      · rintro ⟨_, _, q⟩ p hp
        show decide ([p.1, p.2] ∈ ps) = true
        exact decide_eq_true ((p1 _).mpr ⟨p.1, p.2, rfl, q p.1 p.2 hp⟩)
    rw [e2]
    exact w _ ex
end LU
namespace LU
open PySem L2 PySem.Spec PyProof.Rows DL LW
structure Okr (t : Tale) (ord : List Int) : Prop where
  nd : ord.Nodup
  mem : ∀ x ∈ ord, 0 ≤ x ∧ x < t.many
  ok : ∀ u v, Must t u v → v ∈ ord → u ∈ ord ∧ ord.idxOf u < ord.idxOf v
theorem Okr.len {t : Tale} {ord : List Int} (h : Okr t ord) : ord.length ≤ t.many.toNat := nodup_len h.nd h.mem
theorem slc_l {ds es : List D} {lo hi : Option Int} {S : Hs} {Q : VK2} (e : cutI ds lo hi = es) (q : Q (.vl es) S) : view (.bw ds) S fun c => slcC c lo hi S Q := by subst e; exact q
end LU
namespace LU
open PySem L2 PySem.Spec PyProof.Rows DL LW Classical
theorem index_okR {l : List Int} {x : Int} {a : Addr} {S : Hs} {Q : VK2} (ha : S a = some (.lst (l.map D.int))) (h : x ∈ l) (w : Q (.d (.int (l.idxOf x : Nat))) S) : bmD .index (.d (.ref a)) (.d (.int x)) S Q := ⟨_, ha, index_ok h w⟩
theorem cut_from {l : List Int} {j : Nat} (h : j ≤ l.length) : cutI (l.map D.int) (some (j : Int)) none = (l.drop j).map D.int := by
  rw [cut_map]
  congr 1
  unfold cutI
  have e1 : HT.sIx l.length 0 (some (j : Int)) = j := by rw [HT.sIx_nat]; omega
  have e2 : HT.sIx l.length l.length none = l.length := rfl
  rw [e1, e2]
  exact List.take_of_length_le (by simp)
end LU
namespace LU
open PySem L2 PySem.Spec DL
open LW (f_law_musts)
open PyProof.Rows hiding pairD
theorem brT {k : Bool} {A B : Prop} (e : k = true) (a : A) : Br k A B := by subst e; exact Br.tt a
theorem brF {k : Bool} {A B : Prop} (e : k = false) (b : B) : Br k A B := by subst e; exact Br.ff b
noncomputable abbrev pr2 (x : List Int) : Int × Int := (x.getD 0 0, x.getD 1 0)
theorem times_pairs {t : Tale} (h : ∀ x ∈ t.times, ∃ a b, x = [a, b]) : t.times.map tupI = (t.times.map pr2).map pairD := by
  rw [List.map_map]
  refine List.map_congr_left fun x hx => ?_
  obtain ⟨a, b, rfl⟩ := h x hx
  rfl
theorem mem_pr2 {t : Tale} (h : ∀ x ∈ t.times, ∃ a b, x = [a, b]) {p : Int × Int} : p ∈ t.times.map pr2 ↔ [p.1, p.2] ∈ t.times := by
  constructor
  · intro hp
    obtain ⟨x, hx, e⟩ := List.mem_map.mp hp
    obtain ⟨a, b, rfl⟩ := h x hx
    rw [← e]; exact hx
  · intro hp
    exact List.mem_map.mpr ⟨_, hp, rfl⟩
theorem nodup_pairs {qs : List (Int × Int)} (nd : qs.Nodup) (h : ∀ q ∈ qs, (0 ≤ q.1 ∧ q.1 < 7) ∧ 0 ≤ q.2 ∧ q.2 < 7) : qs.length ≤ 49 := by
  have := nodup_le 49 (qs.map fun q => q.1 * 7 + q.2) (List.pairwise_map.mpr (nd.imp_of_mem fun {a b} ha hb e z => by
    have h1 := h a ha
    have h2 := h b hb
    refine e (Prod.ext ?_ ?_) <;> omega)) (fun x hx => by
    obtain ⟨q, hq, rfl⟩ := List.mem_map.mp hx
    have := h q hq
    omega)
  rwa [List.length_map] at this
structure MuP (t : Tale) (qs : List (Int × Int)) : Prop where
  nd : qs.Nodup
  mem : ∀ q, q ∈ qs ↔ Must t q.1 q.2
  len : qs.length ≤ 49
theorem zip_get {r : List Int} {n : Nat} (h : r.length = n + 1) : ((List.range n).map fun k => (r.getD k 0, r.getD (k + 1) 0)) = r.zip (r.drop 1) := by
  refine List.ext_getElem (by simp [h]) fun i h1 h2 => ?_
  have hi : i < n := by simpa using h1
  rw [List.getElem_map, List.getElem_range, List.getElem_zip, List.getElem_drop]
  rw [List.getD_eq_getElem?_getD, List.getD_eq_getElem?_getD, List.getElem?_eq_getElem (by omega), List.getElem?_eq_getElem (by omega)]
  simp [Nat.add_comm]
theorem getI_nat {ds : List D} {k : Nat} {d : D} (h : ds[k]? = some d) : getI ds ((k : Nat) : Int) = some d := h
theorem law_musts_ok {T : Tbl} (hT : T.fn 161 = some f_law_musts) (n : Nat) {S : Hs} {t : Tale} {Q : VK2} (h : TaleW t) (hm : MustIn t) (h7 : t.many ≤ 7) (h0 : ∀ r ∈ t.rows, ∀ x ∈ r, 0 ≤ x)
    (w : ∀ qs, MuP t qs → Q (.vl (qs.map pairD)) S) : cal T (n + 1) 161 [.d t.d] S Q := by
  refine ⟨_, hT, rfl, rfl, ?_⟩
  generalize cal T n = c
  refine ⟨_, rfl, ⟨_, rfl, ⟨_, rfl, ?_⟩⟩⟩
  refine ⟨_, rfl, ⟨_, rfl, ?_⟩⟩
  rw [times_pairs h.times]
  refine ⟨_, rfl, ?_⟩
  have tl : (t.times.map pr2).length ≤ 3000 := by rw [List.length_map]; exact h.timesL
  refine forL_map' xtI t.rows rfl (fun rest σ S' => ∃ (pre : List (List Int)) (fs : List (Int × Int)) (s6 : Option Vx), t.rows = pre ++ rest ∧ σ = [some (.d t.d), some (.d (.int t.many)), some (.d (.tup ((t.times.map pr2).map pairD))), some (.d (.tup (t.rows.map xtI))), some (.d (.tup (t.looks.map tupI))), some (.vl (fs.map pairD)), s6, none, none, none, none, none, none] ∧
    S' = S ∧ (∀ p, p ∈ fs ↔ [p.1, p.2] ∈ t.times ∨ ∃ r ∈ pre, Nxt r p.1 p.2) ∧ fs.length ≤ 3000 + 3000 * pre.length) (fun _ _ _ _ => trivial) ?_ ?_ _ _ ⟨[], t.times.map pr2, _, rfl, rfl, rfl, fun p => by rw [mem_pr2 h.times]; simp, by simpa using tl⟩
  case refine_2 =>
    rintro r rest hr _ kk σ S' hk ⟨pre, fs, s6, e, rfl, rfl, mk, hl⟩
    have hrl := h.row r hr
    have r6 := h.rows1
    have pl6 : pre.length ≤ 5 := by rw [e, List.length_append, List.length_cons] at r6; omega
    refine ⟨_, rfl, ⟨_, rfl, ⟨_, rfl, ?_⟩⟩⟩
    refine ⟨_, rfl, by rw [List.length_map]; omega, by rw [List.length_map]; omega, ?_⟩
    rw [rngD_ints]
    refine compL_fm' D.int (fun i => some (pairD (r.getD i.toNat 0, r.getD (i.toNat + 1) 0))) ((List.range (((r.map D.int).length : Int) - 1).toNat).map fun (i : Nat) => (i : Int)) rfl trivial (fun i hi P1 P2 g1 g2 => ?_) (by rw [List.length_map, List.length_range, List.length_map, sizeLine_eq]; omega) ?_
    · obtain ⟨k, hk2, rfl⟩ := List.mem_map.mp hi
      have hk3 := List.mem_range.mp hk2
      rw [List.length_map] at hk3
      have a1 : (r.map D.int)[k]? = some (.int (r.getD k 0)) := by rw [List.getElem?_map, List.getD_eq_getElem?_getD, List.getElem?_eq_getElem (by omega)]; rfl
      have a2 : (r.map D.int)[k + 1]? = some (.int (r.getD (k + 1) 0)) := by rw [List.getElem?_map, List.getD_eq_getElem?_getD, List.getElem?_eq_getElem (by omega)]; rfl
      refine Br.tt ⟨_, rfl, ⟨_, rfl, ⟨_, getI_nat a1, ?_⟩⟩⟩
      refine ⟨_, rfl, ⟨_, rfl, ⟨_, (show getI (r.map D.int) ((k : Int) + 1) = _ from getI_nat a2), ?_⟩⟩⟩
      exact ⟨_, rfl, Nat.le_of_ble_eq_true rfl, g1 _ (by simp)⟩
    have eres : ((List.range (((r.map D.int).length : Int) - 1).toNat).map fun (i : Nat) => (i : Int)).filterMap (fun i => some (pairD (r.getD i.toNat 0, r.getD (i.toNat + 1) 0))) = (r.zip (r.drop 1)).map pairD := by
      cases r with
      | nil => rfl
      | cons x r =>
        have en : ((((x :: r).map D.int).length : Int) - 1).toNat = r.length := by rw [List.length_map, List.length_cons]; omega
        rw [en, ← zip_get (n := r.length) rfl, List.filterMap_map, List.map_map, ← List.filterMap_eq_map]
        rfl
    rw [eres]
    have zl : (r.zip (r.drop 1)).length ≤ r.length := by rw [List.length_zip]; exact Nat.min_le_left _ _
    refine ⟨_, rfl, ⟨(by show (fs.map pairD).length + ((r.zip (r.drop 1)).map pairD).length ≤ sizeLine; rw [List.length_map, List.length_map, sizeLine_eq]; omega), ?_⟩⟩
    refine hk _ _ ⟨pre ++ [r], fs ++ r.zip (r.drop 1), some (.d (xtI r)), by rw [e]; simp, ?_, rfl, fun p => ?_, by rw [List.length_append, List.length_append, List.length_singleton]; omega⟩
    · rw [List.map_append]; rfl
    · rw [List.mem_append, mk p]
      constructor
      · rintro ((h | ⟨r', hr', z⟩) | z)
        · exact .inl h
        · exact .inr ⟨r', List.mem_append_left _ hr', z⟩
        · exact .inr ⟨r, by simp, zip_nxt.mp z⟩
      · rintro (h | ⟨r', hr', z⟩)
        · exact .inl (.inl h)
        · rcases List.mem_append.mp hr' with hr' | hr'
          · exact .inl (.inr ⟨r', hr', z⟩)
          · have er : r' = r := by simpa using hr'
            subst er
            exact .inr (zip_nxt.mpr z)
  rintro σ S1 ⟨pre1, fs1, s6, e1, rfl, rfl, mk1, hl1⟩
  rw [List.append_nil] at e1
  subst e1
  have r6 := h.rows1
  have fl1 : fs1.length ≤ 21000 := by omega
  refine ⟨_, rfl, ?_⟩
  refine forL_map' tupI t.looks rfl (fun rest σ S' => ∃ (pre : List (List Int)) (fs : List (Int × Int)) (s6 s8 s9 s10 s11 : Option Vx), t.looks = pre ++ rest ∧ σ = [some (.d t.d), some (.d (.int t.many)), some (.d (.tup ((t.times.map pr2).map pairD))), some (.d (.tup (t.rows.map xtI))), some (.d (.tup (t.looks.map tupI))), some (.vl (fs.map pairD)), s6, none, s8, s9, s10, s11, none] ∧
    S' = S1 ∧ (∀ p, p ∈ fs ↔ ([p.1, p.2] ∈ t.times ∨ ∃ r ∈ t.rows, Nxt r p.1 p.2) ∨ ∃ a x s, [a, x, s] ∈ pre ∧ lookK t a x s [p.1, p.2]) ∧ fs.length ≤ 21000 + 2 * pre.length) (fun _ _ _ _ => trivial) ?_ ?_ _ _ ⟨[], fs1, _, _, _, _, _, rfl, rfl, rfl, fun p => by rw [mk1 p]; simp, by simpa using fl1⟩
  case refine_1 =>
    rintro σ S2 ⟨pre2, fs, s6, s8, s9, s10, s11, e2, rfl, rfl, mk, hl⟩
    rw [List.append_nil] at e2
    subst e2
    have lg : t.looks.length ≤ 6000 := h.looksL
    have mem : ∀ p : Int × Int, p ∈ fs ↔ Must t p.1 p.2 := fun p => by
      rw [mk p]
      constructor
      · rintro ((z | ⟨r, hr, z⟩) | ⟨a, x, s, hx, ⟨z1, z2⟩ | ⟨r, b, z1, z2, z3, z4⟩⟩)
        · exact .inl z
        · exact .inr (.inl ⟨r, hr, z⟩)
        · have : p.1 = s ∧ p.2 = a := by simpa using z2
          exact .inr (.inr (.inl ⟨by rw [this.1]; exact z1, x, by rw [this.1, this.2]; exact hx⟩))
        · have : p.1 = a ∧ p.2 = b := by simpa using z4
          exact .inr (.inr (.inr ⟨by rw [this.1, this.2]; exact z3, x, s, r, by rw [this.1]; exact hx, z1, by rw [this.2]; exact z2⟩))
      · rintro (z | ⟨r, hr, z⟩ | ⟨z1, x, hx⟩ | ⟨z1, x, s, r, hx, hr, z⟩)
        · exact .inl (.inl z)
        · exact .inl (.inr ⟨r, hr, z⟩)
        · exact .inr ⟨p.2, x, p.1, hx, .inl ⟨z1, rfl⟩⟩
        · exact .inr ⟨p.1, x, s, hx, .inr ⟨r, p.2, hr, z, z1, rfl⟩⟩
    have bd : ∀ p ∈ fs, (0 ≤ p.1 ∧ p.1 < 7) ∧ 0 ≤ p.2 ∧ p.2 < 7 := fun p hp => by
      have := hm _ _ ((mem p).mp hp)
      omega
    refine ⟨_, rfl, ⟨fs, rfl, ⟨fun p hp => by have := bd p hp; omega, fun qs nd hq => ?_⟩, fun qs nd _ hq => w qs ⟨nd, fun q => (hq q).trans (mem q), nodup_pairs nd fun q hq2 => bd q ((hq q).mp hq2)⟩⟩⟩
    have := nodup_pairs nd fun q hq2 => bd q (hq q hq2)
    omega
  rintro x rest hx _ kk σ S' hk ⟨pre, fs, s6, s8, s9, s10, s11, e, rfl, rfl, mk, hl⟩
  obtain ⟨a, x, s, r, rfl, a0, x0, hr, hs⟩ := h.looks x hx
  have llk := h.looksL
  have pl : pre.length ≤ 6000 := by rw [e, List.length_append] at llk; omega
  refine ⟨_, rfl, ?_⟩
  have hrm : r ∈ t.rows := List.mem_of_getElem? hr
  have hrl := h.row r hrm
  have hgr : getI (t.rows.map xtI) x = some (xtI r) := getI_row x0 hr
  -- the last step
  have tail : ∀ (L : List Int) (gs : List (Int × Int)) (s6 : Option Vx), L.head? = nextW r s → (∀ p, p ∈ gs ↔ p ∈ fs ∨ (s ≠ -1 ∧ p = (s, a))) → gs.length ≤ fs.length + 1 →
      wpS T c (.om .extend 5 (.cons (.comp (.nm 12) (.tup (.consb (.v 8) (.consb (.v 12) .nil))) (.ite (.slc (.v 11) .n (.i 1))) (.o2 .ne (.v 12) (.v 8))) .nil) none)
        [some (.d t.d), some (.d (.int t.many)), some (.d (.tup ((t.times.map pr2).map pairD))), some (.d (.tup (t.rows.map xtI))), some (.d (.tup (t.looks.map tupI))), some (.vl (gs.map pairD)), s6, none, some (.d (.int a)), some (.d (.int x)), some (.d (.int s)), some (.vl (L.map D.int)), none] S' kk Q (fun _ _ => False) (fun _ _ => False) := by
    intro L gs s6 hL hg hgl
    refine ⟨_, rfl, ⟨_, rfl, ⟨_, rfl, ⟨_, rfl, ?_⟩⟩⟩⟩
    refine slc_l (cut_1 L) ?_
    refine compL_fm' D.int (fun o => if o = a then none else some (pairD (a, o))) (L.take 1) rfl trivial (fun o ho P1 P2 g1 g2 => ?_) (by rw [List.length_take, sizeLine_eq]; omega) ?_
    · refine ⟨_, rfl, ⟨_, rfl, ⟨rfl, rfl, ?_⟩⟩⟩
      show Br (!decide (o = a)) _ _
      by_cases eo : o = a
      · rw [decide_eq_true eo]
        exact Br.ff (g2 (if_pos eo))
      · rw [decide_eq_false eo]
        exact Br.tt ⟨_, rfl, ⟨_, rfl, ⟨_, rfl, Nat.le_of_ble_eq_true rfl, g1 _ (if_neg eo)⟩⟩⟩
    · obtain ⟨ls, els, eml, ell⟩ : ∃ ls : List (Int × Int), (L.take 1).filterMap (fun o => if o = a then none else some (pairD (a, o))) = ls.map pairD ∧ (∀ p, p ∈ ls ↔ ∃ b, L.head? = some b ∧ a ≠ b ∧ p = (a, b)) ∧ ls.length ≤ 1 := by
        cases L with
        | nil => exact ⟨[], rfl, fun p => by simp, by simp⟩
        | cons b L =>
          by_cases eb : b = a
          · exact ⟨[], by simp [eb], fun p => by simp [eb], by simp⟩
          · refine ⟨[(a, b)], by simp [eb], fun p => ?_, by simp⟩
            simp only [List.mem_singleton, List.head?_cons, Option.some.injEq]
            exact ⟨fun z => ⟨b, rfl, fun y => eb y.symm, z⟩, fun ⟨b', e1, _, e3⟩ => by rw [e3, e1]⟩
      rw [els]
      refine ⟨_, rfl, ⟨(by show (gs.map pairD).length + (ls.map pairD).length ≤ sizeLine; rw [List.length_map, List.length_map, sizeLine_eq]; omega), ?_⟩⟩
      refine hk _ _ ⟨pre ++ [[a, x, s]], gs ++ ls, s6, some (.d (.int a)), some (.d (.int x)), some (.d (.int s)), some (.vl (L.map D.int)), by rw [e]; simp, ?_, rfl, fun p => ?_, by rw [List.length_append, List.length_append, List.length_singleton]; omega⟩
      · rw [List.map_append]; rfl
      · rw [List.mem_append, hg p, mk p, eml p]
        constructor
        · rintro (((z | ⟨a', x', s', m, z⟩) | ⟨z1, z2⟩) | ⟨b, z1, z2, z3⟩)
          · exact .inl z
          · exact .inr ⟨a', x', s', List.mem_append_left _ m, z⟩
          · exact .inr ⟨a, x, s, by simp, .inl ⟨z1, by rw [z2]⟩⟩
          · exact .inr ⟨a, x, s, by simp, .inr ⟨r, b, hr, by rw [← hL, z1], z2, by rw [z3]⟩⟩
        · rintro (z | ⟨a', x', s', m, z⟩)
          · exact .inl (.inl (.inl z))
          · rcases List.mem_append.mp m with m | m
            · exact .inl (.inl (.inr ⟨a', x', s', m, z⟩))
            · have : a' = a ∧ x' = x ∧ s' = s := by simpa using m
              obtain ⟨rfl, rfl, rfl⟩ := this
              rcases z with ⟨z1, z2⟩ | ⟨r', b, z1, z2, z3, z4⟩
              · exact .inl (.inr ⟨z1, by have : p.1 = s' ∧ p.2 = a' := by simpa using z2
                                         exact Prod.ext this.1 this.2⟩)
              · rw [hr] at z1
                cases z1
                exact .inr ⟨b, by rw [hL, z2], z3, by have : p.1 = a' ∧ p.2 = b := by simpa using z4
                                                      exact Prod.ext this.1 this.2⟩
  rcases hs with rfl | ⟨hs, sa⟩
  · refine ⟨_, rfl, Br.ff ?_⟩
    refine ⟨_, rfl, ⟨_, rfl, ⟨_, hgr, ?_⟩⟩⟩
    refine ⟨_, rfl, ?_⟩
    refine ⟨_, rfl, Br.ff ?_⟩
    refine tail r fs _ ?_ (fun p => ⟨.inl, fun z => z.elim id fun z => absurd rfl z.1⟩) (by omega)
    show r.head? = nextW r (-1)
    unfold nextW
    rw [if_pos rfl, List.head?_eq_getElem?]
  · have s0 := h0 r hrm s hs
    refine ⟨_, rfl, brT (decide_eq_true s0) ?_⟩
    refine ⟨_, rfl, ⟨_, rfl, ⟨_, rfl, ⟨_, rfl, Nat.le_of_ble_eq_true rfl, ?_⟩⟩⟩⟩
    refine ⟨(by show (fs.map pairD).length < sizeLine; rw [List.length_map, sizeLine_eq]; omega), ?_⟩
    refine ⟨_, rfl, ⟨_, rfl, ⟨_, hgr, ?_⟩⟩⟩
    refine ⟨_, rfl, ?_⟩
    refine ⟨_, rfl, brT (decide_eq_true s0) ?_⟩
    refine ⟨_, rfl, ⟨_, rfl, ⟨⟨_, rfl⟩, ⟨_, rfl, ?_⟩⟩⟩⟩
    refine one1_i (index_ok hs ?_)
    have hi := List.idxOf_lt_length_iff.mpr hs
    refine ⟨_, rfl, ⟨_, rfl, ?_⟩⟩
    refine slc_l (es := (r.drop (r.idxOf s + 1)).map D.int) (cut_from (j := r.idxOf s + 1) (by omega)) ?_
    have := tail (r.drop (r.idxOf s + 1)) (fs ++ [(s, a)]) s6 (by unfold nextW; rw [if_neg (by omega), List.head?_drop]) (fun p => by
      rw [List.mem_append, List.mem_singleton]
      exact ⟨fun z => z.imp id fun z => ⟨by omega, z⟩, fun z => z.imp id fun z => z.2⟩) (by simp)
    rw [List.map_append] at this
    exact this
end LU
namespace LU
open PySem L2 PySem.Spec DL Classical
open PyProof.Rows hiding pairD
open LW (f_law_is_order_2 f_law_is_ring)
theorem eqBs_pairs (qs : List (Int × Int)) (p : Int × Int) : ((qs.map pairD).any fun y => eqB y (pairD p)) = decide (p ∈ qs) := by
  have e := any_tupI (qs.map fun q => [q.1, q.2]) [p.1, p.2]
  rw [List.map_map] at e
  have e2 : (qs.map (tupI ∘ fun q => [q.1, q.2])) = qs.map pairD := List.map_congr_left fun q _ => rfl
  rw [e2] at e
  refine Eq.trans e ?_
  have : ([p.1, p.2] ∈ qs.map fun q => [q.1, q.2]) ↔ p ∈ qs := by
    constructor
    · intro h
      obtain ⟨q, hq, e⟩ := List.mem_map.mp h
      have : q.1 = p.1 ∧ q.2 = p.2 := by simpa using e
      rwa [← Prod.ext this.1 this.2]
    · exact fun h => List.mem_map.mpr ⟨p, h, rfl⟩
  by_cases h : p ∈ qs
  · rw [decide_eq_true h, decide_eq_true (this.mpr h)]
  · rw [decide_eq_false h, decide_eq_false fun z => h (this.mp z)]
theorem pls_pairs (n : Nat) (qs : List (Int × Int)) : pls (n + 1) (qs.map pairD) = true := by
  have e := pls_tupI n (qs.map fun q => [q.1, q.2])
  rw [List.map_map] at e
  exact e
theorem law_order_ok {T : Tbl} (h161 : T.fn 161 = some LW.f_law_musts) (hT : T.fn 169 = some f_law_is_order_2) (n : Nat) {S : Hs} {t : Tale} {l : List Int} {a : Addr} {Q : VK2} (h : TaleW t) (hm : MustIn t) (h7 : t.many ≤ 7) (h0 : ∀ r ∈ t.rows, ∀ x ∈ r, 0 ≤ x)
    (ha : S a = some (.lst (l.map D.int))) (hl : l.length ≤ 3000) (hm0 : 0 ≤ t.many) (w : Q (.d (.bl (decide (OrdP t l)))) S) : cal T (n + 2) 169 [.d t.d, .d (.ref a)] S Q := by
  refine ⟨_, hT, rfl, rfl, ?_⟩
  have hmu := fun (Q : VK2) q => law_musts_ok h161 n (S := S) (t := t) (Q := Q) h hm h7 h0 q
  generalize cal T (n + 1) = c at hmu ⊢
  refine ⟨_, rfl, ⟨_, ha, ⟨l, .inl rfl, fun ns pm hs => ?_⟩⟩⟩
  have m1 := h.m1
  refine ⟨_, rfl, ⟨_, rfl, ⟨_, rfl, by omega, by omega, ?_⟩⟩⟩
  rw [rngD_ints]
  refine ⟨.inr ⟨pls_ints _ _, pls_ints _ _⟩, Br.of (decide (¬ ns = upTo t.many)) ?_ ?_⟩
  · show (!eqBs (ns.map D.int) ((upTo t.many).map D.int)) = _
    rw [eqBs_ints]
    by_cases z : ns = upTo t.many <;> simp [z]
  split
  · rename_i z
    have z := of_decide_eq_true z
    have : ¬ OrdP t l := fun q => z ((pm.trans q.1).eq_of_pairwise (le := fun x y => x ≤ y) (fun a b _ _ h1 h2 => by omega) hs (upTo_sorted _))
    rw [decide_eq_false this] at w
    exact w
  rename_i z
  have z : ns = upTo t.many := by
    by_cases q : ns = upTo t.many
    · exact q
    · exact (z (decide_eq_true q)).elim
  subst z
  have pm : l.Perm (upTo t.many) := pm.symm
  have mem : ∀ x, x ∈ l ↔ 0 ≤ x ∧ x < t.many := fun x => pm.mem_iff.trans upTo_mem
  refine ⟨_, rfl, hmu _ fun qs M => ?_⟩
  have ql := M.len
  refine compL_fm' pairD (fun p => some (.bl (decide (l.idxOf p.1 < l.idxOf p.2)))) qs rfl trivial (fun p hp P1 P2 h1 h2 => ?_) (by rw [sizeLine_eq]; omega) ?_
  · have mp := hm _ _ ((M.mem p).mp hp)
    refine ⟨_, rfl, Br.tt ⟨_, rfl, ⟨⟨_, ha, _, rfl⟩, ⟨_, rfl, ?_⟩⟩⟩⟩
    refine one1_i (index_okR ha ((mem p.1).mpr mp.1) ?_)
    refine ⟨_, rfl, ⟨⟨_, ha, _, rfl⟩, ⟨_, rfl, ?_⟩⟩⟩
    refine one1_i (index_okR ha ((mem p.2).mpr mp.2) ?_)
    have := h1 _ rfl
    show P1 (.bl (decide (((l.idxOf p.1 : Nat) : Int) < ((l.idxOf p.2 : Nat) : Int)))) _
    have e : decide (((l.idxOf p.1 : Nat) : Int) < ((l.idxOf p.2 : Nat) : Int)) = decide (l.idxOf p.1 < l.idxOf p.2) := by
      by_cases q : l.idxOf p.1 < l.idxOf p.2
      · rw [decide_eq_true q, decide_eq_true (by omega)]
      · rw [decide_eq_false q, decide_eq_false (by omega)]
    rw [e]; exact this
  · refine ⟨_, qs.map (fun p => decide (l.idxOf p.1 < l.idxOf p.2)), rfl, by rw [List.map_map, ← List.filterMap_eq_map]; rfl, ?_⟩
    have e2 : (qs.map fun p => decide (l.idxOf p.1 < l.idxOf p.2)).all id = decide (OrdP t l) := by
      rw [List.all_map, Bool.eq_iff_iff, List.all_eq_true, decide_eq_true_iff]
      constructor
      · exact fun q => ⟨pm, fun a b hab => of_decide_eq_true (q (a, b) ((M.mem (a, b)).mpr hab))⟩
      · exact fun q p hp => decide_eq_true (q.2 _ _ ((M.mem p).mp hp))
    rw [e2]
    exact w
noncomputable def ringG (l : List Int) (k : Nat) : Int × Int := (l.getD (if k = 0 then l.length - 1 else k - 1) 0, l.getD k 0)
theorem ring_mem {l : List Int} {p : Int × Int} (h : 2 ≤ l.length) : p ∈ l.zip (l.drop 1 ++ l.take 1) ↔ ∃ k, k < l.length ∧ ringG l k = p := by
  have hz : (l.zip (l.drop 1 ++ l.take 1)).length = l.length := by rw [List.length_zip, List.length_append, List.length_drop, List.length_take]; omega
  have hr : (l.drop 1 ++ l.take 1).length = l.length := by rw [List.length_append, List.length_drop, List.length_take]; omega
  have get : ∀ j (hj : j < l.length), (l.zip (l.drop 1 ++ l.take 1))[j]'(by omega) = ringG l (if j + 1 = l.length then 0 else j + 1) := fun j hj => by
    rw [List.getElem_zip]
    unfold ringG
    by_cases e : j + 1 = l.length
    · rw [if_pos e, if_pos rfl, List.getD_eq_getElem?_getD, List.getD_eq_getElem?_getD, List.getElem?_eq_getElem (by omega), List.getElem?_eq_getElem (by omega)]
      refine Prod.ext ?_ ?_
      · show l[j] = l[l.length - 1]
        congr 1; omega
      · show (l.drop 1 ++ l.take 1)[j]'(by omega) = l[0]
        rw [List.getElem_append_right (by rw [List.length_drop]; omega), List.getElem_take]
        congr 1
        rw [List.length_drop]; omega
    · rw [if_neg e, if_neg (by omega), List.getD_eq_getElem?_getD, List.getD_eq_getElem?_getD, List.getElem?_eq_getElem (by omega), List.getElem?_eq_getElem (by omega)]
      refine Prod.ext rfl ?_
      show (l.drop 1 ++ l.take 1)[j]'(by omega) = l[j + 1]
      rw [List.getElem_append_left (by rw [List.length_drop]; omega), List.getElem_drop]
      congr 1; omega
  constructor
  · intro hp
    obtain ⟨j, hj, e⟩ := List.getElem_of_mem hp
    have hj2 : j < l.length := by omega
    rw [get j hj2] at e
    refine ⟨_, ?_, e⟩
    split <;> omega
  · rintro ⟨k, hk, rfl⟩
    cases k with
    | zero =>
      have := get (l.length - 1) (by omega)
      rw [if_pos (by omega)] at this
      rw [← this]; exact List.getElem_mem _
    | succ k =>
      have := get k (by omega)
      rw [if_neg (by omega)] at this
      rw [← this]; exact List.getElem_mem _
theorem law_ring_ok {T : Tbl} (h161 : T.fn 161 = some LW.f_law_musts) (hT : T.fn 170 = some f_law_is_ring) (n : Nat) {S : Hs} {t : Tale} {l : List Int} {a : Addr} {Q : VK2} (h : TaleW t) (hm : MustIn t) (h7 : t.many ≤ 7) (h0 : ∀ r ∈ t.rows, ∀ x ∈ r, 0 ≤ x)
    (hno : ∀ a, ¬ Must t a a) (ha : S a = some (.lst (l.map D.int))) (hl : l.length ≤ 3000) (w : Q (.d (.bl (decide (RingP t l)))) S) : cal T (n + 2) 170 [.d t.d, .d (.ref a)] S Q := by
  refine ⟨_, hT, rfl, rfl, ?_⟩
  have hmu := fun (Q : VK2) q => law_musts_ok h161 n (S := S) (t := t) (Q := Q) h hm h7 h0 q
  generalize cal T (n + 1) = c at hmu ⊢
  have no : ∀ p : Prop, ¬ p → (RingP t l → p) → Q (.d (.bl false)) S := fun p hp hq => by
    rw [decide_eq_false fun z => hp (hq z)] at w
    exact w
  refine ⟨_, rfl, hmu _ fun qs M => ?_⟩
  have ql := M.len
  refine ⟨_, rfl, ⟨_, ha, ⟨_, rfl, ?_⟩⟩⟩
  by_cases l2 : l.length < 2
  · refine brT (decide_eq_true (by rw [List.length_map]; omega)) (Br.tt (no (2 ≤ l.length) (by omega) fun q => ?_))
    match l, q, l2 with
    | [], q, _ => exact (q.1 rfl).elim
    | [y], q, _ => exact (hno y (q.2.2 y y (by simp))).elim
    | _ :: _ :: _, _, l2 => simp at l2; omega
  refine brF (decide_eq_false (by rw [List.length_map]; omega)) ?_
  refine ⟨_, rfl, ⟨_, ha, ⟨l, rfl, by omega, fun ms m1 m2 => ?_⟩⟩⟩
  refine ⟨_, rfl, ⟨_, ha, ⟨_, rfl, ?_⟩⟩⟩
  have len : (ms.length = l.length) ↔ l.Nodup := by
    constructor
    · intro e
      exact nodup_of_len m1 (fun y => (m2 y).mp) e
    · intro nd
      exact Nat.le_antisymm (nodup_sub' m1 fun y hy => (m2 y).mp hy) (nodup_sub' nd fun y hy => (m2 y).mpr hy)
  refine ⟨rfl, rfl, Br.of (decide (¬ l.Nodup)) ?_ ?_⟩
  · show (!decide ((ms.length : Int) = ((l.map D.int).length : Nat))) = _
    rw [List.length_map]
    by_cases q : l.Nodup
    · have := len.mpr q
      simp [q, this]
    · have : ¬ ms.length = l.length := fun e => q (len.mp e)
      have e2 : ¬ ((ms.length : Int) = (l.length : Int)) := by omega
      simp [q, e2]
  split
  · rename_i z
    exact no _ (of_decide_eq_true z) fun q => q.2.1
  rename_i z
  have nd : l.Nodup := by
    by_cases q : l.Nodup
    · exact q
    · exact (z (decide_eq_true q)).elim
  refine ⟨_, rfl, ⟨_, ha, ⟨_, rfl, ?_⟩⟩⟩
  refine ⟨_, rfl, by rw [List.length_map]; omega, by rw [List.length_map]; omega, ?_⟩
  rw [rngD_ints]
  have hlm : (((l.map D.int).length : Nat) : Int).toNat = l.length := by rw [List.length_map]; omega
  rw [hlm]
  refine compL_fm' D.int (fun i => some (.bl (decide (ringG l i.toNat ∈ qs)))) ((List.range l.length).map fun (i : Nat) => (i : Int)) rfl trivial (fun i hi P1 P2 h1 h2 => ?_) (by rw [sizeLine_eq, List.length_map, List.length_range]; omega) ?_
  · obtain ⟨k, hk2, rfl⟩ := List.mem_map.mp hi
    have hk3 := List.mem_range.mp hk2
    have a1 : getI (l.map D.int) (((k : Nat) : Int) - 1) = some (.int (ringG l k).1) := by
      cases k with
      | zero =>
        show (if 0 < (l.map D.int).length then (l.map D.int)[(l.map D.int).length - (0 + 1)]? else none) = some (.int (l.getD (l.length - 1) 0))
        rw [if_pos (by rw [List.length_map]; exact hk3), List.length_map, List.getElem?_map, List.getD_eq_getElem?_getD, List.getElem?_eq_getElem (by omega)]
        rfl
      | succ k =>
        rw [show (((k + 1 : Nat) : Int) - 1) = ((k : Nat) : Int) by omega]
        show (l.map D.int)[k]? = some (.int (l.getD k 0))
        rw [List.getElem?_map, List.getD_eq_getElem?_getD, List.getElem?_eq_getElem (by omega)]
        rfl
    have a2 : getI (l.map D.int) ((k : Nat) : Int) = some (.int (ringG l k).2) := by
      show (l.map D.int)[k]? = some (.int (l.getD k 0))
      rw [List.getElem?_map, List.getD_eq_getElem?_getD, List.getElem?_eq_getElem hk3]
      rfl
    refine Br.tt ⟨_, rfl, ⟨_, rfl, ⟨_, ha, ⟨_, a1, ?_⟩⟩⟩⟩
    refine ⟨_, rfl, ⟨_, rfl, ⟨_, ha, ⟨_, a2, ?_⟩⟩⟩⟩
    refine ⟨_, rfl, Nat.le_of_ble_eq_true rfl, ⟨_, rfl, ?_⟩⟩
    refine ⟨rfl, pls_pairs 59 qs, ?_⟩
    have := h1 _ rfl
    show P1 (.bl ((qs.map pairD).any fun y => eqB y (pairD (ringG l k)))) _
    rw [eqBs_pairs]; exact this
  · refine ⟨_, (List.range l.length).map (fun k => decide (ringG l k ∈ qs)), rfl, by rw [List.filterMap_map, List.map_map, ← List.filterMap_eq_map]; rfl, ?_⟩
    have e2 : ((List.range l.length).map fun k => decide (ringG l k ∈ qs)).all id = decide (RingP t l) := by
      rw [List.all_map, Bool.eq_iff_iff, List.all_eq_true, decide_eq_true_iff]
      constructor
      · intro q
        refine ⟨fun e => by rw [e] at l2; exact l2 (by decide), nd, fun a b hab => ?_⟩
        obtain ⟨k, hk, e⟩ := (ring_mem (by omega)).mp hab
        exact (M.mem (a, b)).mp (by rw [← e]; exact of_decide_eq_true (q k (List.mem_range.mpr hk)))
      · intro q k hk
        exact decide_eq_true ((M.mem _).mpr (q.2.2 _ _ ((ring_mem (by omega)).mpr ⟨k, List.mem_range.mp hk, rfl⟩)))
    rw [e2]
    exact w
end LU
namespace LU
open PySem L2 PySem.Spec DL Classical
open PyProof.Rows hiding pairD
open LW (f_law_found)
noncomputable def NoFree (t : Tale) (ord : List Int) : Prop := ∀ a, 0 ≤ a ∧ a < t.many → a ∉ ord → ∃ u, Must t u a ∧ u ∉ ord
noncomputable def leftL (t : Tale) (ord : List Int) : List Int := (upTo t.many).filter fun a => decide (a ∉ ord)
theorem left_mem {t : Tale} {ord : List Int} {x : Int} : x ∈ leftL t ord ↔ (0 ≤ x ∧ x < t.many) ∧ x ∉ ord := by
  unfold leftL
  rw [List.mem_filter, upTo_mem, decide_eq_true_iff]
theorem left_len {t : Tale} {ord : List Int} (h7 : t.many ≤ 7) : (leftL t ord).length ≤ 7 := by
  have h1 : (leftL t ord).length ≤ (upTo t.many).length := List.length_filter_le _ _
  rw [upTo_len] at h1
  omega
theorem comp_left {T : Tbl} {c : Nat → List Vx → Hs → VK2 → Prop} {σ : Sl} {S : Hs} {t : Tale} {ord : List Int} {o : Addr} {K : List D → Hs → Prop} (h7 : t.many ≤ 7) (h2 : σ[2]? = some (some (.d (.ref o)))) (ho : S o = some (.lst (ord.map D.int))) (h5 : 5 < σ.length)
    (k : K ((leftL t ord).map D.int) S) :
    compL (.nm 5) (fun _ _ => True) (fun σ' S' K => wpE T c (.v 5) σ' S' (one1 fun y S2 => bx y S2 K)) (fun σ' S' K => wpE T c (.o2 .nmem (.v 5) (.v 2)) σ' S' (one1 (tstK K))) σ ((upTo t.many).map D.int) [] S K := by
  refine compL_fm' D.int (fun a => if a ∉ ord then some (.int a) else none) (upTo t.many) rfl trivial (fun a ha P1 P2 g1 g2 => ?_) (by rw [upTo_len, sizeLine_eq]; omega) ?_
  · refine ⟨_, List.getElem?_set_self h5, ⟨_, (by rw [List.getElem?_set_ne (by decide)]; exact h2), ?_⟩⟩
    refine ⟨_, ho, ⟨rfl, pls_ints _ _, ?_⟩⟩
    have e2 := any_ints ord a
    refine Br.of (decide (a ∉ ord)) ?_ ?_
    · show (!((ord.map D.int).any fun y => eqB y (.int a))) = _
      rw [e2]
      by_cases z : a ∈ ord <;> simp [z]
    · split
      · rename_i q
        have q := of_decide_eq_true q
        exact ⟨_, List.getElem?_set_self h5, g1 _ (if_pos q)⟩
      · rename_i q
        have q : ¬ a ∉ ord := fun q2 => q (decide_eq_true q2)
        exact g2 (if_neg q)
  · have eleft : ∀ l : List Int, l.filterMap (fun a => if a ∉ ord then some (D.int a) else none) = (l.filter fun a => decide (a ∉ ord)).map D.int := by
      intro l
      induction l with
      | nil => rfl
      | cons x l ih =>
        rw [List.filterMap_cons, List.filter_cons, ih]
        by_cases q : x ∈ ord <;> simp [q]
    rw [eleft]
    exact k
noncomputable def aheadL (qs : List (Int × Int)) (left : List Int) (a : Int) : List (Int × Int) := qs.filter fun q => decide (q.2 = a ∧ q.1 ∈ left)
theorem test_ahead {T : Tbl} {c : Nat → List Vx → Hs → VK2 → Prop} {σ : Sl} {S : Hs} {left : List Int} {q : Int × Int} {e : R} {a : Int} {A B : Hs → Prop} (h7 : σ[7]? = some (some (.d (pairD q)))) (h4 : σ[4]? = some (some (.vl (left.map D.int))))
    (he : ∀ P : VK2, P (.d (.int a)) S → wpE T c e σ S (one1 P)) (g1 : q.2 = a ∧ q.1 ∈ left → A S) (g2 : ¬ (q.2 = a ∧ q.1 ∈ left) → B S) :
    wpE T c (.and (.o2 .eq (.o2 .idx (.v 7) (.i 1)) e) (.one (.o2 .mem (.o2 .idx (.v 7) (.i 0)) (.v 4)))) σ S (one1 (tstK fun b S1 => Br b (A S1) (B S1))) := by
  refine ⟨_, h7, ⟨_, rfl, ?_⟩⟩
  refine he _ ⟨rfl, rfl, ?_⟩
  show Br (decide (q.2 = a)) _ _
  by_cases e1 : q.2 = a
  · refine brT (decide_eq_true e1) ?_
    refine ⟨_, h7, ⟨_, rfl, ⟨_, h4, ⟨rfl, pls_ints _ _, ?_⟩⟩⟩⟩
    have e2 := any_ints left q.1
    refine Br.of (decide (q.1 ∈ left)) ?_ ?_
    · show ((left.map D.int).any fun y => eqB y (.int q.1)) = _
      exact e2
    · split
      · rename_i z; exact g1 ⟨e1, of_decide_eq_true z⟩
      · rename_i z; exact g2 fun y => z (decide_eq_true y.2)
  · exact brF (decide_eq_false e1) (Br.ff (g2 fun y => e1 y.1))
theorem law_found_ok {T : Tbl} (h161 : T.fn 161 = some LW.f_law_musts) (hT : T.fn 171 = some f_law_found) (n : Nat) {S : Hs} {t : Tale} {Q : VK2} (h : TaleW t) (hm : MustIn t) (h7 : t.many ≤ 7) (hm0 : 0 ≤ t.many) (h0 : ∀ r ∈ t.rows, ∀ x ∈ r, 0 ≤ x)
    (w : ∀ S' o r (ord ring : List Int), Ex S S' → S o = none → S r = none → S' o = some (.lst (ord.map D.int)) → S' r = some (.lst (ring.map D.int)) → ord.length ≤ 20 → ring.length ≤ 20 → Q (.d (.tup [.ref o, .ref r])) S') : cal T (n + 2) 171 [.d t.d] S Q := by
  refine ⟨_, hT, rfl, rfl, ?_⟩
  have hmu := fun (Q : VK2) q => law_musts_ok h161 n (S := S) (t := t) (Q := Q) h hm h7 h0 q
  generalize cal T (n + 1) = c at hmu ⊢
  refine ⟨_, rfl, hmu _ fun qs M => ?_⟩
  have ql := M.len
  refine ⟨_, rfl, Nat.le_of_ble_eq_true rfl, ⟨_, rfl, fun o ho => ?_⟩⟩
  have xo : ∀ ob, Ex S (su S o ob) := fun ob => Ex.refl.new ho
  refine ⟨_, rfl, ⟨_, rfl, ⟨_, rfl, by omega, by omega, ?_⟩⟩⟩
  rw [rngD_ints]
  show forL _ _ _ _ ((upTo t.many).map D.int) _ _
  refine forL_map' D.int (upTo t.many) rfl (fun rest σ S' => ∃ (ord : List Int) (s3 s4 s5 s6 : Option Vx), σ = [some (.d t.d), some (.vl (qs.map pairD)), some (.d (.ref o)), s3, s4, s5, s6, none, none] ∧ S' = su S o (.lst (ord.map D.int)) ∧
    ord.Nodup ∧ (∀ x ∈ ord, 0 ≤ x ∧ x < t.many) ∧ (ord.length + rest.length = t.many.toNat ∨ NoFree t ord)) (fun _ _ _ _ => trivial) ?_ ?_ _ _ ⟨[], _, _, _, _, rfl, rfl, List.nodup_nil, (fun x hx => (by cases hx)), .inl (by rw [upTo_len]; simp)⟩
  case refine_2 =>
    rintro x rest hx _ kk σ S' hk ⟨ord, s3, s4, s5, s6, rfl, rfl, nd, rg, hf⟩
    have so : su S o (.lst (ord.map D.int)) o = some (.lst (ord.map D.int)) := su_same
    refine ⟨_, rfl, ⟨_, rfl, ⟨_, rfl, by omega, by omega, ?_⟩⟩⟩
    rw [rngD_ints]
    show compL _ _ _ _ _ ((upTo t.many).map D.int) _ _ _
    refine comp_left (ord := ord) (o := o) h7 rfl so (by show 5 < 9; decide) ?_
    generalize hL : leftL t ord = left
    have lm : ∀ x, x ∈ left ↔ (0 ≤ x ∧ x < t.many) ∧ x ∉ ord := fun x => by rw [← hL]; exact left_mem
    have ll : left.length ≤ 7 := by rw [← hL]; exact left_len h7
    refine ⟨_, rfl, ?_⟩
    refine compL_fm' D.int (fun a => if aheadL qs left a = [] then some (.int a) else none) left rfl trivial (fun a ha P1 P2 g1 g2 => ?_) (by rw [sizeLine_eq]; omega) ?_
    · refine ⟨_, rfl, ?_⟩
      refine compL_fm' pairD (fun q => if q.2 = a ∧ q.1 ∈ left then some (pairD q) else none) qs rfl trivial (fun q hq R1 R2 f1 f2 => ?_) (by rw [sizeLine_eq]; omega) ?_
      · exact test_ahead rfl rfl (fun P k => ⟨_, rfl, k⟩) (fun z => ⟨_, rfl, f1 _ (if_pos z)⟩) (fun z => f2 (if_neg z))
      · have ea : ∀ l : List (Int × Int), l.filterMap (fun q => if q.2 = a ∧ q.1 ∈ left then some (pairD q) else none) = (aheadL l left a).map pairD := by
          intro l
          unfold aheadL
          induction l with
          | nil => rfl
          | cons x l ih =>
            rw [List.filterMap_cons, List.filter_cons, ih]
            by_cases z : x.2 = a ∧ x.1 ∈ left <;> simp [z]
        rw [ea]
        refine ⟨_, rfl, Nat.le_of_ble_eq_true rfl, ⟨.inl rfl, ?_⟩⟩
        refine Br.of (decide (aheadL qs left a = [])) ?_ ?_
        · cases aheadL qs left a <;> rfl
        · split
          · rename_i z; exact ⟨_, rfl, g1 _ (if_pos (of_decide_eq_true z))⟩
          · rename_i z; exact g2 (if_neg fun y => z (decide_eq_true y))
    have ef : ∀ l : List Int, l.filterMap (fun a => if aheadL qs left a = [] then some (D.int a) else none) = (l.filter fun a => decide (aheadL qs left a = [])).map D.int := by
      intro l
      induction l with
      | nil => rfl
      | cons x l ih =>
        rw [List.filterMap_cons, List.filter_cons, ih]
        by_cases z : aheadL qs left x = [] <;> simp [z]
    rw [ef]
    generalize hF : left.filter (fun a => decide (aheadL qs left a = [])) = free
    have fm : ∀ a, a ∈ free ↔ a ∈ left ∧ aheadL qs left a = [] := fun a => by rw [← hF, List.mem_filter, decide_eq_true_iff]
    have am : ∀ a, aheadL qs left a = [] ↔ ¬ ∃ u, Must t u a ∧ u ∈ left := fun a => by
      constructor
      · rintro e ⟨u, h1, h2⟩
        have : (u, a) ∈ aheadL qs left a := List.mem_filter.mpr ⟨(M.mem (u, a)).mpr h1, decide_eq_true ⟨rfl, h2⟩⟩
        rw [e] at this; cases this
      · intro e
        refine List.eq_nil_iff_forall_not_mem.mpr fun q hq => ?_
        obtain ⟨h1, h2⟩ := List.mem_filter.mp hq
        have h2 := of_decide_eq_true h2
        exact e ⟨q.1, by have := (M.mem q).mp h1; rwa [h2.1] at this, h2.2⟩
    refine ⟨_, rfl, ⟨o, _, rfl, so, ?_⟩⟩
    refine ⟨_, rfl, ⟨_, rfl, ⟨_, rfl, ?_⟩⟩⟩
    refine slc_l (cut_1 free) ?_
    refine ⟨_, so, ?_⟩
    refine ⟨_, rfl, (by rw [List.length_map, List.length_map, List.length_take]; have : ord.length ≤ 7 := by (have := nodup_len nd rg; omega)
                        rw [sizeLine_eq]; omega), ⟨_, rfl, ?_⟩⟩
    rw [su_su, ← List.map_append]
    cases hfr : free with
    | nil =>
      refine hk _ _ ⟨ord, _, _, _, _, rfl, by simp, nd, rg, .inr fun a ha hn => ?_⟩
      have hl : a ∈ left := (lm a).mpr ⟨ha, hn⟩
      have nf : ¬ aheadL qs left a = [] := fun z => by have := (fm a).mpr ⟨hl, z⟩; rw [hfr] at this; cases this
      have := Classical.not_not.mp fun z => nf ((am a).mpr z)
      obtain ⟨u, h1, h2⟩ := this
      exact ⟨u, h1, ((lm u).mp h2).2⟩
    | cons a fr =>
      have ha := (fm a).mp (by rw [hfr]; exact List.mem_cons_self)
      have hl := (lm a).mp ha.1
      refine hk _ _ ⟨ord ++ [a], _, _, _, _, rfl, rfl, ?_, ?_, ?_⟩
      · exact List.nodup_append.mpr ⟨nd, by simp, fun x hx y hy e => hl.2 (by rw [← show y = a by simpa using hy, ← e]; exact hx)⟩
      · intro x hx
        rcases List.mem_append.mp hx with hx | hx
        · exact rg x hx
        · rw [show x = a by simpa using hx]; exact hl.1
      · rcases hf with hf | hf
        · left
          rw [List.length_append, List.length_singleton]
          rw [List.length_cons] at hf
          omega
        · exact absurd (hf a hl.1 hl.2) fun ⟨u, h1, h2⟩ => (am a).mp ha.2 ⟨u, h1, (lm u).mpr ⟨(hm _ _ h1).1, h2⟩⟩
  rintro σ S1 ⟨ord, s3, s4, s5, s6, rfl, rfl, nd, rg, hf⟩
  have so : su S o (.lst (ord.map D.int)) o = some (.lst (ord.map D.int)) := su_same
  have ol := nodup_len nd rg
  have nf : NoFree t ord := by
    rcases hf with hf | hf
    · intro a ha hn
      have := nodup_len (r := ord ++ [a]) (m := t.many) (List.nodup_append.mpr ⟨nd, by simp, fun x hx y hy e => hn (by rw [← show y = a by simpa using hy, ← e]; exact hx)⟩) (fun x hx => by
        rcases List.mem_append.mp hx with hx | hx
        · exact rg x hx
        · rw [show x = a by simpa using hx]; exact ha)
      rw [List.length_append, List.length_singleton] at this
      simp at hf
      omega
    · exact hf
  clear hf
  refine ⟨_, rfl, ⟨_, rfl, ⟨_, rfl, by omega, by omega, ?_⟩⟩⟩
  rw [rngD_ints]
  show compL _ _ _ _ _ ((upTo t.many).map D.int) _ _ _
  refine comp_left (ord := ord) (o := o) h7 rfl so (by show 5 < 9; decide) ?_
  generalize hL : leftL t ord = left
  have lm : ∀ x, x ∈ left ↔ (0 ≤ x ∧ x < t.many) ∧ x ∉ ord := fun x => by rw [← hL]; exact left_mem
  have ll : left.length ≤ 7 := by rw [← hL]; exact left_len h7
  refine ⟨_, rfl, ⟨_, rfl, ⟨_, rfl, ?_⟩⟩⟩
  refine slc_l (cut_1 left) ?_
  refine whl_inv (fun k σ S' => ∃ (ws : List Int), k = 9 - ws.length ∧ σ = [some (.d t.d), some (.vl (qs.map pairD)), some (.d (.ref o)), s3, some (.vl (left.map D.int)), s5, s6, none, some (.vl (ws.map D.int))] ∧ S' = su S o (.lst (ord.map D.int)) ∧
    (∀ x ∈ ws, x ∈ left) ∧ ∀ p y, ws = p ++ [y] → p.Nodup) ?_ ⟨left.take 1, rfl, rfl, rfl, fun x hx => List.mem_of_mem_take hx, fun p y e => by
      have := congrArg List.length e
      rw [List.length_take, List.length_append, List.length_singleton] at this
      have : p.length = 0 := by omega
      rw [List.length_eq_zero_iff.mp this]; exact List.nodup_nil⟩
  rintro k2 σ S' kk2 hk2 ⟨ws, rfl, rfl, rfl, wl, wn⟩
  refine ⟨_, rfl, ⟨_, rfl, Nat.le_of_ble_eq_true rfl, ⟨.inl rfl, ?_⟩⟩⟩
  rcases List.eq_nil_or_concat ws with rfl | ⟨p, y, rfl⟩
  · refine Br.ff (Br.ff ?_)
    refine ⟨_, rfl, ⟨_, rfl, Nat.le_of_ble_eq_true rfl, ⟨.inl rfl, Br.tt ?_⟩⟩⟩
    refine ⟨_, rfl, ⟨_, rfl, Nat.le_of_ble_eq_true rfl, ?_⟩⟩
    refine fun r hr => ⟨_, rfl, Nat.le_of_ble_eq_true rfl, ?_⟩
    have hor : o ≠ r := fun e => by rw [← e, so] at hr; cases hr
    exact w _ o r ord [] ((xo _).new hr) ho (by rw [su_ne (fun e => hor e.symm)] at hr; exact hr) (by rw [su_ne hor]; exact so) su_same (by omega) (by decide)
  rw [List.concat_eq_append] at *
  have hlast : getI ((p ++ [y]).map D.int) (-1) = some (.int y) := by
    rw [List.map_append]
    exact getI_last _ _
  have hcut : cutI ((p ++ [y]).map D.int) none (some (-1)) = p.map D.int := by
    rw [cut_map]
    congr 1
    have e : ∀ l : List Int, cutI (l ++ [y]) none (some (-1)) = l := fun l => by
      unfold cutI
      have e1 : HT.sIx (l ++ [y]).length 0 none = 0 := rfl
      have e2 : HT.sIx (l ++ [y]).length (l ++ [y]).length (some (-1)) = l.length := by
        unfold HT.sIx
        simp only []
        rw [if_pos (by decide)]
        simp; omega
      rw [e1, e2]
      simp
    exact e p
  refine brT (by cases p <;> rfl) ?_
  have np := wn p y rfl
  have pl : p.length ≤ 7 := by
    have := nodup_len (m := t.many) np fun x hx => ((lm x).mp (wl x (List.mem_append_left _ hx))).1
    omega
  refine ⟨_, rfl, ⟨_, hlast, ⟨_, rfl, ⟨_, rfl, ⟨_, rfl, slc_l hcut ?_⟩⟩⟩⟩⟩
  refine ⟨rfl, pls_ints _ _, Br.of (decide (y ∉ p)) ?_ ?_⟩
  · have e2 := any_ints p y
    show (!((p.map D.int).any fun z => eqB z (.int y))) = _
    rw [e2]
    by_cases z : y ∈ p <;> simp [z]
  split
  · rename_i q
    have q := of_decide_eq_true q
    have hy := (lm y).mp (wl y (by simp))
    obtain ⟨u, hu1, hu2⟩ := nf y hy.1 hy.2
    have hul : u ∈ left := (lm u).mpr ⟨(hm _ _ hu1).1, hu2⟩
    refine ⟨_, rfl, ⟨_, rfl, ?_⟩⟩
    refine compL_fm' pairD (fun q => if q.2 = y ∧ q.1 ∈ left then some (.int q.1) else none) qs rfl trivial (fun q hq R1 R2 f1 f2 => ?_) (by rw [sizeLine_eq]; omega) ?_
    · exact test_ahead rfl rfl (fun P k => ⟨_, rfl, ⟨_, hlast, k⟩⟩) (fun z => ⟨_, rfl, ⟨_, rfl, f1 _ (if_pos z)⟩⟩) (fun z => f2 (if_neg z))
    · have ea : ∀ l : List (Int × Int), l.filterMap (fun q => if q.2 = y ∧ q.1 ∈ left then some (D.int q.1) else none) = ((aheadL l left y).map fun q => q.1).map D.int := by
        intro l
        unfold aheadL
        induction l with
        | nil => rfl
        | cons x l ih =>
          rw [List.filterMap_cons, List.filter_cons, ih]
          by_cases z : x.2 = y ∧ x.1 ∈ left <;> simp [z]
      rw [ea]
      have hm2 : (u, y) ∈ aheadL qs left y := List.mem_filter.mpr ⟨(M.mem (u, y)).mpr hu1, decide_eq_true ⟨rfl, hul⟩⟩
      obtain ⟨v, vs, ev⟩ := List.exists_cons_of_ne_nil (List.ne_nil_of_mem hm2)
      have hv : v.1 ∈ left := (of_decide_eq_true (List.mem_filter.mp (show v ∈ aheadL qs left y by rw [ev]; simp)).2).2
      rw [ev]
      refine ⟨_, rfl, ⟨?_, ?_⟩⟩
      · show ((p ++ [y]).map D.int).length < sizeLine
        rw [List.length_map, sizeLine_eq, List.length_append, List.length_singleton]; omega
      · refine hk2 _ _ _ ?_ ⟨(p ++ [y]) ++ [v.1], rfl, by rw [List.map_append (l₁ := p ++ [y])]; rfl, rfl, fun x hx => ?_, fun p2 y2 e => ?_⟩
        · simp; omega
        · rcases List.mem_append.mp hx with hx | hx
          · exact wl x hx
          · rw [show x = v.1 by simpa using hx]; exact hv
        · obtain ⟨e1, _⟩ := List.append_inj' e rfl
          rw [← e1]
          exact List.nodup_append.mpr ⟨np, by simp, fun a ha b hb e => q (by rw [← show b = y by simpa using hb, ← e]; exact ha)⟩
  · rename_i q
    have q : y ∈ p := Classical.byContradiction fun z => q (decide_eq_true z)
    refine ⟨_, rfl, ⟨_, rfl, Nat.le_of_ble_eq_true rfl, ⟨.inl rfl, ?_⟩⟩⟩
    refine brF (by cases p <;> rfl) ?_
    have ei : (p ++ [y]).idxOf y < p.length := by
      rw [List.idxOf_append, if_pos q]
      exact List.idxOf_lt_length_iff.mpr q
    refine ⟨_, rfl, ⟨_, rfl, ⟨_, so, ⟨(by rw [List.length_map, List.length_map, sizeLine_eq]; omega), fun r1 hr1 => ?_⟩⟩⟩⟩
    rw [← List.map_append]
    refine ⟨_, rfl, ⟨_, rfl, ⟨⟨_, rfl⟩, ⟨_, rfl, ⟨_, hlast, one1_i (index_ok (l := p ++ [y]) (by simp) ?_)⟩⟩⟩⟩⟩
    refine ⟨_, rfl, ⟨rfl, ⟨_, rfl, (by rw [List.length_map, List.length_append]; omega), fun r2 hr2 => ?_⟩⟩⟩
    rw [← List.map_drop, ← List.map_reverse]
    refine ⟨_, rfl, Nat.le_of_ble_eq_true rfl, ?_⟩
    have hor : r1 ≠ r2 := fun e => by rw [← e, su_same] at hr2; cases hr2
    have h1o : r1 ≠ o := fun e => by rw [e, so] at hr1; cases hr1
    have h2o : r2 ≠ o := fun e => by rw [e, su_ne (fun q => h1o q.symm), so] at hr2; cases hr2
    refine w _ r1 r2 (ord ++ left) _ (((xo _).new hr1).new hr2) (by rw [su_ne h1o] at hr1; exact hr1) (by rw [su_ne hor.symm, su_ne h2o] at hr2; exact hr2) (by rw [su_ne hor]; exact su_same) su_same (by rw [List.length_append]; omega) ?_
    rw [List.length_reverse, List.length_drop, List.length_append, List.length_singleton]; omega
end LU
namespace LU
open PySem L2 PySem.Spec DL Classical
open PyProof.Rows hiding pairD
open LW (f_law_bent_7 f_law_29 f_law_sip f_law_well f_law_mixed f_law_tale f_next_writer f_musts f_law_musts f_is_tale_order f_is_ring f_law_is_order_2 f_law_is_ring f_law_found)
noncomputable def IsL (p : Addr) (m : Nat) (S : Hs) (y : D) : Prop := ∃ (a : Addr) (l : List Int), y = .ref a ∧ a ≠ p ∧ S a = some (.lst (l.map D.int)) ∧ l.length ≤ m
theorem IsL.fr {p : Addr} {m : Nat} {S S' : Hs} {y : D} (h : IsL p m S y) (f : Fr p S S') : IsL p m S' y := by
  obtain ⟨a, l, e, n, h, k⟩ := h
  exact ⟨a, l, e, n, f _ _ h n, k⟩
theorem cut_ints {l : List Int} {lo hi : Option Int} : ∃ l' : List Int, cutI (l.map D.int) lo hi = l'.map D.int ∧ l'.length ≤ l.length := by
  refine ⟨cutI l lo hi, cut_map .., ?_⟩
  unfold cutI
  simp
  omega
theorem bx_new {p : Addr} {m : Nat} {S0 S : Hs} {l : List Int} {K : D → Hs → Prop} (k0 : keepAt p S0 S) (hl : l.length ≤ m) (k : ∀ y S', keepAt p S0 S' → Fr p S S' → IsL p m S' y → K y S') : bx (.vl (l.map D.int)) S K := by
  intro r hr
  obtain ⟨v, hv⟩ := k0.2
  have np : r ≠ p := fun e => by rw [e, hv] at hr; cases hr
  have n0 : S0 r = none := by
    cases e : S0 r with
    | none => rfl
    | some x => have := k0.1 _ _ e np; rw [hr] at this; cases this
  exact k _ _ (k0.at n0 np) (Fr.refl.new hr) ⟨r, l, rfl, np, su_same, hl⟩
theorem lst_i {T : Tbl} {c : Nat → List Vx → Hs → VK2 → Prop} {as : R} {σ : Sl} {S : Hs} {Q : List Vx → Hs → Prop} (h : wpE T c as σ S fun xs S1 => ∃ ds, unD xs = some ds ∧ ds.length ≤ sizeLine ∧ Q [.vl ds] S1) : wpE T c (.lst as) σ S Q := h
noncomputable def EL (T : Tbl) (c : Nat → List Vx → Hs → VK2 → Prop) (e : R) (σ : Sl) (S : Hs) (m : Nat) : Prop := ∀ K : List Vx → Hs → Prop, (∀ l : List Int, l.length ≤ m → K [.vl (l.map D.int)] S) → wpE T c e σ S K
theorem EL.add {T : Tbl} {c : Nat → List Vx → Hs → VK2 → Prop} {e e' : R} {σ : Sl} {S : Hs} {m m' : Nat} (h : EL T c e σ S m) (h' : EL T c e' σ S m') (hm : m + m' ≤ 100) : EL T c (.o2 .add e e') σ S (m + m') := by
  intro K k
  refine h _ fun l hl => h' _ fun l' hl' => ⟨(by rw [List.length_map, List.length_map, sizeLine_eq]; omega), ?_⟩
  have := k (l ++ l') (by rw [List.length_append]; omega)
  rw [List.map_append] at this
  exact this
theorem EL.consb {T : Tbl} {c : Nat → List Vx → Hs → VK2 → Prop} {e as : R} {σ : Sl} {S0 S : Hs} {p : Addr} {m n : Nat} {Q : List Vx → Hs → Prop} (h : EL T c e σ S m) (hm : m ≤ n) (k0 : keepAt p S0 S)
    (k : ∀ y S', keepAt p S0 S' → Fr p S S' → IsL p n S' y → wpE T c as σ S' fun xs S3 => Q (.d y :: xs) S3) : wpE T c (.consb e as) σ S Q :=
  h _ fun l hl => bx_new k0 (Nat.le_trans hl hm) k
noncomputable abbrev sb (p a : Addr) (t : Tale) (i num : Int) (x : Option Vx) : Sl := [some (.d (.ref p)), some (.d t.d), some (.d (.ref a)), some (.d (.int i)), some (.d (.int num)), x]
theorem bent7_ok {T : Tbl} (h7 : T.fn 147 = some f_law_sip) (hT : T.fn 172 = some f_law_bent_7) (n : Nat) {S : Hs} {p a : Addr} {v : Int} {t : Tale} {l : List Int} {Q : VK2} (hw : S p = some (.lst [.int v])) (hm0 : 1 ≤ t.many) (hm1 : t.many ≤ 7)
    (np : a ≠ p) (ha : S a = some (.lst (l.map D.int))) (hl : l.length ≤ 20)
    (w : ∀ S' y, keepAt p S S' → IsL p 60 S' y → Q (.d y) S') : cal T (n + 2) 172 [.d (.ref p), .d t.d, .d (.ref a)] S Q := by
  refine ⟨_, hT, rfl, rfl, ?_⟩
  have hs := fun (S : Hs) (v m : Int) Q (h : S p = some (.lst [.int v])) => sip_ok h7 n (m := m) (Q := Q) h
  generalize cal T (n + 1) = c at hs ⊢
  refine ⟨_, rfl, ⟨_, rfl, ⟨_, ha, ⟨_, rfl, hs _ _ _ _ hw (by rw [List.length_map]; omega) (by rw [List.length_map]; omega) fun i v1 i0 i1 => ?_⟩⟩⟩⟩
  rw [List.length_map] at i1
  have k1 : keepAt p S (su S p (.lst [.int v1])) := ⟨Fr.pen, v1, su_same⟩
  generalize su S p (.lst [.int v1]) = S1 at k1 ⊢
  obtain ⟨v1', hv1⟩ := k1.2
  have ha1 : S1 a = some (.lst (l.map D.int)) := k1.1 _ _ ha np
  refine ⟨_, rfl, ⟨_, rfl, ?_⟩⟩
  refine ⟨⟨by decide, by decide, by decide⟩, ?_⟩
  refine ⟨_, rfl, ⟨_, rfl, ⟨_, rfl, hs _ _ _ _ hv1 (by omega) (by omega) fun j v2 j0 j1 => ?_⟩⟩⟩
  have k2 : keepAt p S (su S1 p (.lst [.int v2])) := ⟨k1.1.trans Fr.pen, v2, su_same⟩
  generalize su S1 p (.lst [.int v2]) = S2 at k2 ⊢
  obtain ⟨v2', hv2⟩ := k2.2
  refine ⟨_, rfl, Nat.le_of_ble_eq_true rfl, ?_⟩
  refine ⟨_, rfl, hs _ _ _ _ hv2 (by omega) (by omega) fun q v3 q0 q1 => ?_⟩
  have k3 : keepAt p S (su S2 p (.lst [.int v3])) := ⟨k2.1.trans Fr.pen, v3, su_same⟩
  generalize su S2 p (.lst [.int v3]) = S3 at k3 ⊢
  have ha3 : S3 a = some (.lst (l.map D.int)) := k3.1 _ _ ha np
  obtain ⟨y, hy, num, rfl⟩ := idx_any (ds := [D.int t.many, D.int (-1), D.int (10 ^ 20), D.int j]) (P := fun y => ∃ num : Int, y = .int num) q0 q1 (by
    intro y hy
    rcases List.mem_cons.mp hy with rfl | hy
    · exact ⟨_, rfl⟩
    rcases List.mem_cons.mp hy with rfl | hy
    · exact ⟨_, rfl⟩
    rcases List.mem_cons.mp hy with rfl | hy
    · exact ⟨_, rfl⟩
    rw [List.mem_singleton.mp hy]; exact ⟨_, rfl⟩)
  refine ⟨_, hy, ?_⟩
  clear hy
  refine ⟨_, rfl, ?_⟩
  show DL.wpS T c _ [some (.d (.ref p)), some (.d t.d), some (.d (.ref a)), some (.d (.int i)), some (.d (.int num)), none] S3 _ _ _ _
  show DL.wpS T c _ (sb p a t i num none) S3 _ _ _ _
  -- the slices
  have hat : ∀ S', keepAt p S S' → S' a = some (.lst (l.map D.int)) := fun S' k => k.1 _ _ ha np
  have gs : ∀ (x : Option Vx) S' (k : keepAt p S S') lo hi (K : List Vx → Hs → Prop), (∀ l' : List Int, l'.length ≤ 20 → K [.vl (l'.map D.int)] S') → view (.d (.ref a)) S' fun c => slcC c lo hi S' fun z S => K [z] S := fun x S' k lo hi K kk => by
    refine ⟨_, hat S' k, ?_⟩
    obtain ⟨l', e, hl'⟩ := cut_ints (l := l) (lo := lo) (hi := hi)
    show K [.vl (cutI (l.map D.int) lo hi)] S'
    rw [e]
    exact kk l' (by omega)
  have e2 : ∀ (x : Option Vx) S', keepAt p S S' → EL T c (.rev (.v 2)) (sb p a t i num x) S' 20 := fun x S' k K kk => by
    refine ⟨_, rfl, ⟨_, hat S' k, ⟨_, .inl ⟨rfl, ?_⟩⟩⟩⟩
    rw [← List.map_reverse]
    exact kk _ (by rw [List.length_reverse]; omega)
  have e3 : ∀ (x : Option Vx) S', keepAt p S S' → EL T c (.slc (.v 2) (.v 3) .n) (sb p a t i num x) S' 20 := fun x S' k K kk => by
    refine ⟨_, rfl, ⟨_, rfl, ⟨_, rfl, ?_⟩⟩⟩
    exact ⟨_, rfl, gs x S' k _ _ K kk⟩
  have e4 : ∀ (x : Option Vx) S', keepAt p S S' → EL T c (.slc (.v 2) .n (.v 3)) (sb p a t i num x) S' 20 := fun x S' k K kk => by
    refine ⟨_, rfl, ⟨_, rfl, ⟨_, rfl, ?_⟩⟩⟩
    exact ⟨_, rfl, gs x S' k _ _ K kk⟩
  have e5 : ∀ (x : Option Vx) S', keepAt p S S' → EL T c (.slc (.v 2) (.o2 .add (.v 3) (.i 1)) .n) (sb p a t i num x) S' 20 := fun x S' k K kk => by
    refine ⟨_, rfl, ⟨_, rfl, ⟨_, rfl, ?_⟩⟩⟩
    exact ⟨_, rfl, gs x S' k _ _ K kk⟩
  have e6 : ∀ (x : Option Vx) S', keepAt p S S' → EL T c (.slc (.v 2) .n (.i 1)) (sb p a t i num x) S' 20 := fun x S' k K kk => by
    refine ⟨_, rfl, ⟨_, rfl, ?_⟩⟩
    exact ⟨_, rfl, gs x S' k _ _ K kk⟩
  have e7 : ∀ (x : Option Vx) S', keepAt p S S' → EL T c (.lst (.consb (.v 4) .nil)) (sb p a t i num x) S' 1 := fun x S' k K kk => by
    refine ⟨_, rfl, ?_⟩
    exact ⟨_, rfl, Nat.le_of_ble_eq_true rfl, kk [num] (by simp)⟩
  have iA : ∀ S', keepAt p S S' → IsL p 60 S' (.ref a) := fun S' k => ⟨a, l, rfl, np, hat S' k, by omega⟩
  refine ⟨_, rfl, ?_⟩
  show wpE T c _ (sb p a t i num none) S3 _
  refine EL.consb (n := 60) (e2 _ _ k3) (by decide) k3 fun y1 S4 k4 f4 i1 => ?_
  refine EL.consb (n := 60) ((e3 _ _ k4).add (e4 _ _ k4) (by decide)) (by decide) k4 fun y2 S5 k5 f5 i2 => ?_
  refine EL.consb (n := 60) ((e4 _ _ k5).add (e5 _ _ k5) (by decide)) (by decide) k5 fun y3 S6 k6 f6 i3 => ?_
  refine EL.consb (n := 60) (((e4 _ _ k6).add (e7 _ _ k6) (by decide)).add (e3 _ _ k6) (by decide)) (by decide) k6 fun y4 S7 k7 f7 i4 => ?_
  refine ⟨_, rfl, Nat.le_of_ble_eq_true rfl, ?_⟩
  have al : ∀ y ∈ [D.ref a, y1, y2, y3, y4], IsL p 60 S7 y := by
    intro y hy
    rcases List.mem_cons.mp hy with rfl | hy
    · exact iA _ k7
    rcases List.mem_cons.mp hy with rfl | hy
    · exact ((i1.fr f5).fr f6).fr f7
    rcases List.mem_cons.mp hy with rfl | hy
    · exact (i2.fr f6).fr f7
    rcases List.mem_cons.mp hy with rfl | hy
    · exact i3.fr f7
    rw [List.mem_singleton.mp hy]; exact i4
  generalize hL : [D.ref a, y1, y2, y3, y4] = L at al
  have lL : L.length = 5 := by rw [← hL]; rfl
  have e8 : ∀ (x : Option Vx) S', keepAt p S S' → EL T c (.o2 .add (.v 2) (.slc (.v 2) .n (.i 1))) (sb p a t i num x) S' 40 := fun x S' k K kk => by
    refine ⟨_, rfl, e6 x S' k _ fun l' hl' => ?_⟩
    refine ⟨_, hat S' k, ⟨(by rw [List.length_map, List.length_map, sizeLine_eq]; omega), ?_⟩⟩
    have := kk (l ++ l') (by rw [List.length_append]; omega)
    rw [List.map_append] at this
    exact this
  have e9 : ∀ (x : Option Vx) S', keepAt p S S' → EL T c (.lst .nil) (sb p a t i num x) S' 0 := fun x S' k K kk => ⟨_, rfl, Nat.le_of_ble_eq_true rfl, kk [] (Nat.le_refl _)⟩
  refine ⟨_, rfl, ?_⟩
  show wpE T c (.lst _) (sb p a t i num (some (.vl L))) S7 _
  refine lst_i ?_
  refine EL.consb (n := 60) (e8 _ _ k7) (by decide) k7 fun z1 S8 k8 f8 j1 => ?_
  refine EL.consb (n := 60) (((e4 _ _ k8).add (e7 _ _ k8) (by decide)).add (e5 _ _ k8) (by decide)) (by decide) k8 fun z2 S9 k9 f9 j2 => ?_
  refine EL.consb (n := 60) (e9 _ _ k9) (by decide) k9 fun z3 S10 k10 f10 j3 => ?_
  refine EL.consb (n := 60) (e4 _ _ k10) (by decide) k10 fun z4 S11 k11 f11 j4 => ?_
  refine ⟨_, rfl, Nat.le_of_ble_eq_true rfl, ?_⟩
  refine ⟨(by show L.length + 4 ≤ sizeLine; rw [lL, sizeLine_eq]; omega), ?_⟩
  have bl : ∀ y ∈ L ++ [z1, z2, z3, z4], IsL p 60 S11 y := by
    intro y hy
    rcases List.mem_append.mp hy with hy | hy
    · exact ((((al y hy).fr f8).fr f9).fr f10).fr f11
    rcases List.mem_cons.mp hy with rfl | hy
    · exact ((j1.fr f9).fr f10).fr f11
    rcases List.mem_cons.mp hy with rfl | hy
    · exact (j2.fr f10).fr f11
    rcases List.mem_cons.mp hy with rfl | hy
    · exact j3.fr f11
    rw [List.mem_singleton.mp hy]; exact j4
  have lN : (L ++ [z1, z2, z3, z4]).length = 9 := by rw [List.length_append, lL]; rfl
  generalize L ++ [z1, z2, z3, z4] = N at bl lN
  obtain ⟨v4, hv4⟩ := k11.2
  refine ⟨_, rfl, ⟨_, rfl, hs _ _ _ _ hv4 (by omega) (by omega) fun u v5 u0 u1 => ?_⟩⟩
  obtain ⟨y, hy, hP⟩ := idx_any (ds := N) u0 (by omega) bl
  refine ⟨_, hy, ?_⟩
  exact w _ y ⟨k11.1.trans Fr.pen, v5, su_same⟩ (hP.fr Fr.pen)
theorem srcX_own {b : Bool} {ds : List D} {S : Hs} {K : It2 → Hs → Prop} (h : K ⟨ds, fun _ _ => True, false⟩ S) : srcX b (.vl ds) S K := by cases b <;> exact h
theorem no_self {t : Tale} {m : Int} (h : t.Ok m) (a : Int) : ¬ Must t a a := by
  rintro (z | ⟨r, hr, p, q, e⟩ | ⟨z, x, hm⟩ | ⟨z, _⟩)
  · obtain ⟨a', b', e, ne, _⟩ := h.times _ z
    simp at e
    exact ne (e.1.symm.trans e.2)
  · have := (h.row r hr).1
    rw [e] at this
    have := (List.nodup_append.mp this).2.1
    simp at this
  · obtain ⟨a', b', s, r, e, _, _, _, hs⟩ := h.looks _ hm
    simp at e
    obtain ⟨e1, _, e3⟩ := e
    rcases hs with hs | ⟨_, hs⟩
    · exact z (e3.trans hs)
    · exact hs (e3.symm.trans e1)
  · exact z rfl
theorem law_ok29 {T : Tbl} (hg : T.glob 17 = .d (.int (-1))) (h6 : T.fn 146 = some f_law_well) (h7 : T.fn 147 = some f_law_sip) (h9 : T.fn 149 = some f_law_mixed) (h150 : T.fn 150 = some f_law_tale)
    (h159 : T.fn 159 = some f_next_writer) (h160 : T.fn 160 = some f_musts) (h161 : T.fn 161 = some f_law_musts) (h167 : T.fn 167 = some f_is_tale_order) (h168 : T.fn 168 = some f_is_ring) (h169 : T.fn 169 = some f_law_is_order_2) (h170 : T.fn 170 = some f_law_is_ring)
    (h171 : T.fn 171 = some f_law_found) (h172 : T.fn 172 = some f_law_bent_7)
    (f : Nat) (hT : T.fn f = some f_law_29) (n : Nat) {ns : List Int} : cal T (n + 4) f [.fz (ns.map D.int)] (fun _ => none) fun r _ => r = .d (.bl true) := by
  refine ⟨_, hT, rfl, rfl, ?_⟩
  have c6 := fun (S : Hs) (k : Int) Q => well_ok h6 (n + 2) (S := S) (ns := ns) (k := k) (Q := Q)
  have c10 := fun (S : Hs) (p : Addr) (v m : Int) Q (h : S p = some (.lst [.int v])) => tale_ok h7 h9 h150 n (most := m) (Q := Q) h
  have c9 := fun (S : Hs) (p : Addr) (v m : Int) Q (h : S p = some (.lst [.int v])) => mixed_ok h7 h9 (n + 1) (m := m) (Q := Q) h
  have c167 := fun (S : Hs) (t : Tale) (l : List Int) Q (h : TaleW t) (hm : MustIn t) => is_tale_order_ok hg h159 h160 h167 n (S := S) (l := l) (Q := Q) h hm
  have c168 := fun (S : Hs) (t : Tale) (l : List Int) (x : Vx) Q (h : TaleW t) (hx : LX x (l.map D.int) S) => is_ring_ok hg h159 h160 h168 n (Q := Q) h hx
  have c169 := fun (S : Hs) (t : Tale) (l : List Int) (a : Addr) Q (h : TaleW t) (hm : MustIn t) (x7 : t.many ≤ 7) (h0 : ∀ r ∈ t.rows, ∀ x ∈ r, 0 ≤ x) => law_order_ok h161 h169 (n + 1) (S := S) (l := l) (a := a) (Q := Q) h hm x7 h0
  have c170 := fun (S : Hs) (t : Tale) (l : List Int) (a : Addr) Q (h : TaleW t) (hm : MustIn t) (x7 : t.many ≤ 7) (h0 : ∀ r ∈ t.rows, ∀ x ∈ r, 0 ≤ x) => law_ring_ok h161 h170 (n + 1) (S := S) (l := l) (a := a) (Q := Q) h hm x7 h0
  have c171 := fun (S : Hs) (t : Tale) Q (h : TaleW t) (hm : MustIn t) (x7 : t.many ≤ 7) (hm0 : 0 ≤ t.many) (h0 : ∀ r ∈ t.rows, ∀ x ∈ r, 0 ≤ x) => law_found_ok h161 h171 (n + 1) (S := S) (Q := Q) h hm x7 hm0 h0
  have c172 := fun (S : Hs) (p a : Addr) (v : Int) (t : Tale) (l : List Int) Q (hw : S p = some (.lst [.int v])) => bent7_ok h7 h172 (n + 1) (S := S) (a := a) (t := t) (l := l) (Q := Q) hw
  generalize cal T (n + 3) = c at c6 c10 c9 c167 c168 c169 c170 c171 c172 ⊢
  obtain ⟨z, hz, z0, z1⟩ := rng_bd 3 10 (by decide) (by decide) (ns.map D.int).length
  refine ⟨_, rfl, ⟨_, rfl, ⟨z, ?_, by omega, by omega, ?_⟩⟩⟩
  · rw [← hz]
  refine forL_map' D.int (upTo z) (rngD_ints _) (fun _ σ S => ∃ s1 s2 s3 s4 s5 s6 s7 s8 s9 s10 : Option Vx, σ = [some (.fz (ns.map D.int)), s1, s2, s3, s4, s5, s6, s7, s8, s9, s10, none]) (fun _ _ _ _ => trivial) ?_ ?_ _ _ ⟨_, _, _, _, _, _, _, _, _, _, rfl⟩
  · rintro σ S ⟨s1, s2, s3, s4, s5, s6, s7, s8, s9, s10, rfl⟩
    exact rfl
  rintro i rest hi _ kk σ S hk ⟨s1, s2, s3, s4, s5, s6, s7, s8, s9, s10, rfl⟩
  have hi := upTo_mem.mp hi
  refine ⟨_, rfl, ⟨_, rfl, c6 _ _ _ hi.1 (by omega) fun v => ⟨_, rfl, fun p hp => ?_⟩⟩⟩
  refine ⟨_, rfl, c10 _ _ _ _ _ su_same (by omega) (by omega) fun t v' S2 tk f2 hv2 => ?_⟩
  have tm0 := tk.m0
  have tm1 := tk.m1
  have tw : TaleW t := tk.w (by omega)
  have mi : MustIn t := tk.must
  have r0 : ∀ r ∈ t.rows, ∀ x ∈ r, 0 ≤ x := fun r hr x hx => ((tk.row r hr).2 x hx).1
  have k2 : keepAt p S2 S2 := ⟨Fr.refl, _, hv2⟩
  refine ⟨_, rfl, c171 _ t _ tw mi tm1 (by omega) r0 fun S3 o r ord ring x3 no nr ho hr lo lr => ?_⟩
  have np : o ≠ p := fun e => by rw [e, hv2] at no; cases no
  have nq : r ≠ p := fun e => by rw [e, hv2] at nr; cases nr
  have k3 : keepAt p S2 S3 := ⟨fun b x e _ => x3 b x e, _, x3 _ _ hv2⟩
  have io : IsL p 60 S3 (.ref o) := ⟨o, ord, rfl, np, ho, by omega⟩
  have ir : IsL p 60 S3 (.ref r) := ⟨r, ring, rfl, nq, hr, by omega⟩
  refine ⟨_, rfl, ?_⟩
  refine ⟨_, rfl, ⟨_, rfl, ?_⟩⟩
  refine ⟨_, rfl, ?_⟩
  refine ⟨_, rfl, ⟨_, rfl, ⟨_, rfl, c9 _ _ _ _ _ (x3 _ _ hv2) (by omega) (by omega) fun lm v3 S4 pm f4 hv4 => ?_⟩⟩⟩
  have lml : lm.length ≤ 7 := by rw [pm.length_eq, upTo_len]; omega
  have k4 : keepAt p S2 S4 := ⟨k3.1.trans f4, _, hv4⟩
  refine one1_i ?_
  refine bx_new (m := 60) (l := lm) k4 (by omega) fun y1 S5 k5 f5 i1 => ?_
  refine lst_i (show wpE T c (.consb (.i 0) .nil) _ S5 _ from ⟨_, rfl, Nat.le_of_ble_eq_true rfl, ?_⟩)
  refine one1_i ?_
  refine bx_new (m := 60) (l := [0]) k5 (by decide) fun y2 S6 k6 f6 i2 => ?_
  refine lst_i (show wpE T c .nil _ S6 _ from ⟨_, rfl, Nat.le_of_ble_eq_true rfl, ?_⟩)
  refine one1_i ?_
  refine bx_new (m := 60) (l := []) k6 (by decide) fun y3 S7 k7 f7 i3 => ?_
  refine ⟨_, rfl, Nat.le_of_ble_eq_true rfl, ?_⟩
  have al : ∀ y ∈ [D.ref o, .ref r, y1, y2, y3], IsL p 60 S7 y := by
    intro y hy
    rcases List.mem_cons.mp hy with rfl | hy
    · exact (((io.fr f4).fr f5).fr f6).fr f7
    rcases List.mem_cons.mp hy with rfl | hy
    · exact (((ir.fr f4).fr f5).fr f6).fr f7
    rcases List.mem_cons.mp hy with rfl | hy
    · exact (i1.fr f6).fr f7
    rcases List.mem_cons.mp hy with rfl | hy
    · exact i2.fr f7
    rw [List.mem_singleton.mp hy]; exact i3
  have go7 : ∀ y, IsL p 60 S3 y → IsL p 60 S7 y := fun y h => (((h.fr f4).fr f5).fr f6).fr f7
  have ho7 : S7 o = some (.lst (ord.map D.int)) := f7 _ _ (f6 _ _ (f5 _ _ (f4 _ _ ho np) np) np) np
  have hr7 : S7 r = some (.lst (ring.map D.int)) := f7 _ _ (f6 _ _ (f5 _ _ (f4 _ _ hr nq) nq) nq) nq
  generalize hL : [D.ref o, .ref r, y1, y2, y3] = L at al
  have lL : L.length = 5 := by rw [← hL]; rfl
  show DL.wpS T c _ [some (.fz (ns.map D.int)), some (.d (.int i)), some (.d (.ref p)), some (.d t.d), some (.d (.ref o)), some (.d (.ref r)), some (.vl L), s7, s8, s9, s10, none] S7 _ _ _ _
  clear hL ho hr i1 i2 i3 io ir f4 f5 f6 f7 k3 k4 k5 k6
  refine ⟨_, rfl, by decide, by decide, ?_⟩
  refine forL_map' D.int (upTo 4) (rngD_ints _) (fun rest σ S' => ∃ (L : List D) (s7 : Option Vx), σ = [some (.fz (ns.map D.int)), some (.d (.int i)), some (.d (.ref p)), some (.d t.d), some (.d (.ref o)), some (.d (.ref r)), some (.vl L), s7, s8, s9, s10, none] ∧
    (∀ y ∈ L, IsL p 60 S' y) ∧ L.length + rest.length = 9 ∧ keepAt p S7 S') (fun _ _ _ _ => trivial) ?_ ?_ _ _ ⟨L, _, rfl, al, by rw [lL]; rfl, Fr.refl, k7.2⟩
  case refine_2 =>
    rintro u rest hu _ kk2 σ S8 hk2 ⟨L, s7, rfl, al, lL, k8⟩
    have hu := upTo_mem.mp hu
    obtain ⟨v4, hv4⟩ := k8.2
    have eg : ∃ (a : Addr) (l : List Int), getI [D.ref o, .ref r] (u % 2) = some (.ref a) ∧ a ≠ p ∧ S8 a = some (.lst (l.map D.int)) ∧ l.length ≤ 20 := by
      have : u % 2 = 0 ∨ u % 2 = 1 := by omega
      rcases this with e | e
      · exact ⟨o, ord, by rw [e]; rfl, np, k8.1 _ _ ho7 np, lo⟩
      · exact ⟨r, ring, by rw [e]; rfl, nq, k8.1 _ _ hr7 nq, lr⟩
    obtain ⟨a, l, hg, na, ha, la⟩ := eg
    refine ⟨_, rfl, ⟨_, rfl, ⟨_, rfl, ⟨_, rfl, ⟨_, rfl, ⟨_, rfl, Nat.le_of_ble_eq_true rfl, ⟨_, rfl, ⟨by decide, ⟨_, hg, ?_⟩⟩⟩⟩⟩⟩⟩⟩⟩
    refine c172 _ _ _ _ _ _ _ hv4 tm0 tm1 na ha la fun S9 y k9 iy => ?_
    refine ⟨(by show L.length < sizeLine; rw [sizeLine_eq]; rw [List.length_cons] at lL; omega), ?_⟩
    refine hk2 _ _ ⟨L ++ [y], _, rfl, fun x hx => ?_, by rw [List.length_append, List.length_singleton]; rw [List.length_cons] at lL; omega, k8.1.trans k9.1, k9.2⟩
    rcases List.mem_append.mp hx with hx | hx
    · exact (al x hx).fr k9.1
    · rw [List.mem_singleton.mp hx]; exact iy
  rintro σ S8 ⟨L, s7, rfl, al, lL, k8⟩
  rw [List.length_nil] at lL
  refine ⟨_, rfl, ?_⟩
  refine forL_map' id L (List.map_id _).symm (fun _ σ S' => ∃ (s8 s9 s10 : Option Vx), σ = [some (.fz (ns.map D.int)), some (.d (.int i)), some (.d (.ref p)), some (.d t.d), some (.d (.ref o)), some (.d (.ref r)), some (.bw L), s7, s8, s9, s10, none] ∧ Ex S8 S') (fun _ _ _ _ => trivial) ?_ ?_ _ _ ⟨_, _, _, rfl, .refl⟩
  · rintro σ S' ⟨s8, s9, s10, rfl, _⟩
    exact hk _ _ ⟨_, _, _, _, _, _, _, _, _, _, rfl⟩
  rintro y rest hy _ kk3 σ S9 hk3 ⟨s8, s9, s10, rfl, x9⟩
  obtain ⟨a, l, rfl, na, ha, la⟩ := al y hy
  have ha := x9 _ _ ha
  refine ⟨_, rfl, ⟨_, ha, ?_⟩⟩
  refine ⟨_, rfl, ?_⟩
  refine ⟨_, rfl, ⟨_, rfl, c167 _ t l _ tw mi (by omega) (by omega) fun S10 x10 => ?_⟩⟩
  refine ⟨_, rfl, ⟨_, rfl, c168 _ t l _ _ tw (.inl rfl) (by omega) fun S11 x11 => ?_⟩⟩
  refine ⟨_, rfl, Nat.le_of_ble_eq_true rfl, ?_⟩
  have xa := (x9.trans x10).trans x11
  have ha11 := x11 _ _ (x10 _ _ ha)
  refine ⟨_, rfl, ?_⟩
  refine srcX_own ?_
  refine compL_fm' D.bl (fun _ => some (.bl true)) [decide (OrdP t l), decide (RingP t l)] rfl trivial (fun b hb P1 P2 g1 g2 => Br.tt ⟨_, rfl, ⟨_, rfl, g1 _ rfl⟩⟩) (Nat.le_of_ble_eq_true rfl) ?_
  refine ⟨_, [true, true], rfl, rfl, ?_⟩
  refine Br.ff ?_
  have eL : (!eqBs (l.map D.int) (l.map D.int)) = false := by rw [eqBs_ints, decide_eq_true rfl]; rfl
  refine ⟨_, rfl, ⟨_, rfl, ⟨_, ha11, ⟨.inr ⟨pls_ints _ _, pls_ints _ _⟩, brF eL ?_⟩⟩⟩⟩
  refine ⟨_, rfl, ⟨_, rfl, ⟨_, rfl, c169 _ t l a _ tw mi tm1 r0 ha11 (by omega) (by omega) ?_⟩⟩⟩
  refine ⟨_, rfl, ⟨_, rfl, c170 _ t l a _ tw mi tm1 r0 (no_self tk) ha11 (by omega) ?_⟩⟩
  refine ⟨_, rfl, Nat.le_of_ble_eq_true rfl, ?_⟩
  have eB : (!eqBs [D.bl (decide (OrdP t l)), D.bl (decide (RingP t l))] [D.bl (decide (OrdP t l)), D.bl (decide (RingP t l))]) = false := by
    cases decide (OrdP t l) <;> cases decide (RingP t l) <;> rfl
  refine ⟨.inr ⟨rfl, rfl⟩, brF eB ?_⟩
  refine hk3 _ _ ⟨_, _, _, rfl, xa⟩
end LU
namespace LW
open PySem L2 PySem.Spec PyProof.Rows DL
noncomputable def topS (i : Nat) : Stmt := PySem.Challenge.pw_oneglance_k29_orders_and_rings_looked_at.main.body.getD i (.Pass ⟨0, 0, 0, 0⟩)
noncomputable def d_next_writer : DefI := ⟨159, "next_writer", "next_writer", topS 2, ["row", "source", "at"], ["row", "source"], f_next_writer, none, false⟩
noncomputable def d_musts : DefI := ⟨160, "musts", "musts", topS 3, ["tale", "many", "times", "writers", "looks", "found", "one", "row", "other", "a", "box", "source", "behind"], ["tale"], f_musts, none, false⟩
noncomputable def d_is_tale_order : DefI := ⟨167, "is_tale_order", "is_tale_order", topS 4, ["tale", "some", "turns", "turn", "a", "one", "other"], ["tale", "some"], f_is_tale_order, none, false⟩
noncomputable def d_is_ring : DefI := ⟨168, "is_ring", "is_ring", topS 5, ["tale", "some", "known", "one", "other"], ["tale", "some"], f_is_ring, none, false⟩
noncomputable def d_law_well : DefI := ⟨146, "_law_well", "_law_well", topS 7, ["script", "k", "number", "stir", "found", "turn"], ["script", "k"], f_law_well, none, false⟩
noncomputable def d_law_sip : DefI := ⟨147, "_law_sip", "_law_sip", topS 8, ["well", "many", "digit"], ["well", "many"], f_law_sip, none, false⟩
noncomputable def d_law_mixed : DefI := ⟨149, "_law_mixed", "_law_mixed", topS 9, ["well", "many", "left", "found", "at"], ["well", "many"], f_law_mixed, none, false⟩
noncomputable def d_law_tale : DefI := ⟨150, "_law_tale", "_law_tale", topS 10, ["well", "most", "many", "hidden", "writers", "box", "row", "a", "looks", "k", "one", "earlier", "times", "b"], ["well", "most"], f_law_tale, none, false⟩
noncomputable def d_law_musts : DefI := ⟨161, "_law_musts", "_law_musts", topS 11, ["tale", "many", "times", "writers", "looks", "found", "row", "k", "a", "box", "source", "later", "one"], ["tale"], f_law_musts, none, false⟩
noncomputable def d_law_is_order_2 : DefI := ⟨169, "_law_is_order", "_law_is_order", topS 12, ["tale", "some", "one", "other"], ["tale", "some"], f_law_is_order_2, none, false⟩
noncomputable def d_law_is_ring : DefI := ⟨170, "_law_is_ring", "_law_is_ring", topS 13, ["tale", "some", "known", "k"], ["tale", "some"], f_law_is_ring, none, false⟩
noncomputable def d_law_found : DefI := ⟨171, "_law_found", "_law_found", topS 14, ["tale", "known", "order", "turn", "left", "a", "free", "one", "way"], ["tale"], f_law_found, none, false⟩
noncomputable def d_law_bent_7 : DefI := ⟨172, "_law_bent", "_law_bent", topS 15, ["well", "tale", "some", "at", "number", "more"], ["well", "tale", "some"], f_law_bent_7, none, false⟩
noncomputable def d_law_29 : DefI := ⟨173, "law", "law", topS 16, ["script", "k", "well", "tale", "order", "ring", "lists", "turn", "some", "handed", "found", "one"], ["script"], f_law_29, none, false⟩
noncomputable def g_AT_FIRST : Nat × Str × Vx := (17, "AT_FIRST", (.d (.int (-1))))
noncomputable def inf : Inf := ⟨[d_next_writer, d_musts, d_is_tale_order, d_is_ring, d_law_well, d_law_sip, d_law_mixed, d_law_tale, d_law_musts, d_law_is_order_2, d_law_is_ring, d_law_found, d_law_bent_7, d_law_29], [], [g_AT_FIRST], []⟩
theorem k_next_writer : chkD inf d_next_writer = true := by decide +kernel
theorem k_musts : chkD inf d_musts = true := by decide +kernel
theorem k_is_tale_order : chkD inf d_is_tale_order = true := by decide +kernel
theorem k_is_ring : chkD inf d_is_ring = true := by decide +kernel
theorem k_law_well : chkD inf d_law_well = true := by decide +kernel
theorem k_law_sip : chkD inf d_law_sip = true := by decide +kernel
theorem k_law_mixed : chkD inf d_law_mixed = true := by decide +kernel
theorem k_law_tale : chkD inf d_law_tale = true := by decide +kernel
theorem k_law_musts : chkD inf d_law_musts = true := by decide +kernel
theorem k_law_is_order_2 : chkD inf d_law_is_order_2 = true := by decide +kernel
theorem k_law_is_ring : chkD inf d_law_is_ring = true := by decide +kernel
theorem k_law_found : chkD inf d_law_found = true := by decide +kernel
theorem k_law_bent_7 : chkD inf d_law_bent_7 = true := by decide +kernel
theorem k_law_29 : chkD inf d_law_29 = true := by decide +kernel
theorem inf_chk : inf.Chk := chk_of (by
  show [d_next_writer, d_musts, d_is_tale_order, d_is_ring, d_law_well, d_law_sip, d_law_mixed, d_law_tale, d_law_musts, d_law_is_order_2, d_law_is_ring, d_law_found, d_law_bent_7, d_law_29].all (chkD inf) = true
  simp only [List.all_cons, List.all_nil, Bool.and_self, k_next_writer, k_musts, k_is_tale_order, k_is_ring, k_law_well, k_law_sip, k_law_mixed, k_law_tale, k_law_musts, k_law_is_order_2, k_law_is_ring, k_law_found, k_law_bent_7, k_law_29]) (by decide +kernel)
theorem law2 : Holds2 inf 173 := fun ns _ _ => LU.law_ok29 rfl rfl rfl rfl rfl rfl rfl rfl rfl rfl rfl rfl rfl rfl _ rfl 96
noncomputable def dd_next_writer : He.DefD := ⟨("next_writer", none), d_next_writer.name, d_next_writer.qual, defArgs d_next_writer.st, defBody d_next_writer.st, defScope d_next_writer.st, [], []⟩
noncomputable def dd_musts : He.DefD := ⟨("musts", none), d_musts.name, d_musts.qual, defArgs d_musts.st, defBody d_musts.st, defScope d_musts.st, [], []⟩
noncomputable def dd_is_tale_order : He.DefD := ⟨("is_tale_order", none), d_is_tale_order.name, d_is_tale_order.qual, defArgs d_is_tale_order.st, defBody d_is_tale_order.st, defScope d_is_tale_order.st, [], []⟩
noncomputable def dd_is_ring : He.DefD := ⟨("is_ring", none), d_is_ring.name, d_is_ring.qual, defArgs d_is_ring.st, defBody d_is_ring.st, defScope d_is_ring.st, [], []⟩
noncomputable def dd_law_well : He.DefD := ⟨("_law_well", none), d_law_well.name, d_law_well.qual, defArgs d_law_well.st, defBody d_law_well.st, defScope d_law_well.st, [], []⟩
noncomputable def dd_law_sip : He.DefD := ⟨("_law_sip", none), d_law_sip.name, d_law_sip.qual, defArgs d_law_sip.st, defBody d_law_sip.st, defScope d_law_sip.st, [], []⟩
noncomputable def dd_law_mixed : He.DefD := ⟨("_law_mixed", none), d_law_mixed.name, d_law_mixed.qual, defArgs d_law_mixed.st, defBody d_law_mixed.st, defScope d_law_mixed.st, [], []⟩
noncomputable def dd_law_tale : He.DefD := ⟨("_law_tale", none), d_law_tale.name, d_law_tale.qual, defArgs d_law_tale.st, defBody d_law_tale.st, defScope d_law_tale.st, [], []⟩
noncomputable def dd_law_musts : He.DefD := ⟨("_law_musts", none), d_law_musts.name, d_law_musts.qual, defArgs d_law_musts.st, defBody d_law_musts.st, defScope d_law_musts.st, [], []⟩
noncomputable def dd_law_is_order_2 : He.DefD := ⟨("_law_is_order", none), d_law_is_order_2.name, d_law_is_order_2.qual, defArgs d_law_is_order_2.st, defBody d_law_is_order_2.st, defScope d_law_is_order_2.st, [], []⟩
noncomputable def dd_law_is_ring : He.DefD := ⟨("_law_is_ring", none), d_law_is_ring.name, d_law_is_ring.qual, defArgs d_law_is_ring.st, defBody d_law_is_ring.st, defScope d_law_is_ring.st, [], []⟩
noncomputable def dd_law_found : He.DefD := ⟨("_law_found", none), d_law_found.name, d_law_found.qual, defArgs d_law_found.st, defBody d_law_found.st, defScope d_law_found.st, [], []⟩
noncomputable def dd_law_bent_7 : He.DefD := ⟨("_law_bent", none), d_law_bent_7.name, d_law_bent_7.qual, defArgs d_law_bent_7.st, defBody d_law_bent_7.st, defScope d_law_bent_7.st, [], []⟩
noncomputable def dd_law_29 : He.DefD := ⟨("law", none), d_law_29.name, d_law_29.qual, defArgs d_law_29.st, defBody d_law_29.st, defScope d_law_29.st, [], []⟩
noncomputable def fns_0 : List He.DefD := [dd_next_writer, dd_musts, dd_is_tale_order, dd_is_ring, dd_law_well, dd_law_sip, dd_law_mixed, dd_law_tale, dd_law_musts, dd_law_is_order_2, dd_law_is_ring, dd_law_found, dd_law_bent_7, dd_law_29]
noncomputable def fns : List He.DefD := fns_0
noncomputable def fas_0 : List He.Fa := [.glo "next_writer", .glo "musts", .glo "is_tale_order", .glo "is_ring", .glo "_law_well", .glo "_law_sip", .glo "_law_mixed", .glo "_law_tale", .glo "_law_musts", .glo "_law_is_order", .glo "_law_is_ring", .glo "_law_found", .glo "_law_bent", .glo "law", .int "AT_FIRST" (-1), .free "len", .free "int", .free "str", .free "list", .free "tuple", .free "sorted", .free "all", .free "any", .free "min", .free "max", .free "range", .free "enumerate", .free "zip", .free "isinstance", .free "bool"]
noncomputable def fas_1 : List He.Fa := [.free "dict", .free "sum", .free "set"]
noncomputable def fas : List He.Fa := fas_0 ++ fas_1
noncomputable def exs (_ : Frag) : Bool := true
noncomputable def names_0 : List Str := ["AT_FIRST", "next_writer", "musts", "is_tale_order", "is_ring", "_law_well", "_law_sip", "_law_mixed", "_law_tale", "_law_musts", "_law_is_order", "_law_is_ring", "_law_found", "_law_bent"]
noncomputable def names : List Str := names_0
noncomputable def tabs : List He.Tab := []
noncomputable abbrev hk : PySem.W.Hook := hookY 4 fas fns tabs exs
noncomputable def ob (s : PySem.W.SharedT) : AlY := obsY 4 fas fns tabs exs (HandSHeadRun.getT s)
theorem ob_eq (s : PySem.W.SharedT) : ob s = hk.obs s.abs := obsY_eq (HandSHeadRun.getT_eq s)
theorem run (w : World) : HandSHeadRun.RunEq (PySem.W.OpenLaw.row PySem.Challenge.rw_oneglance_k29_orders_and_rings_looked_at) (PySem.W.view (PySem.W.OpenLaw.row PySem.Challenge.rw_oneglance_k29_orders_and_rings_looked_at).prog [16]) hk ob 20000 names w := by
  intro os
  kernel_rfl
theorem facts {l : PySem.W.OpenLaw} {w : World} {K : Frag} {h : Heap} {mg : Str → Option Value} {fa : Addr} (KX : K.In h) (G : h.Ns mainGlobals mg) (hfa : mg "law" = some (.ref fa)) (c : SaysY fas fns tabs exs w K) (h2 : Holds2 inf 173) :
    ∃ fd : FuncData, (∀ (s : Shared) (v : Value), BindsTo s fd ⟨[v], []⟩ [("script", v)]) ∧ ∀ base : Heap, K.In base → base.Ns mainGlobals mg → FnOk l.prog w K mg base CX0 200 fa fd ["script"] (spLaw K) := by
  let adr : Nat → Addr := fun _ => 0
  obtain ⟨fdnext_writer, Fnext_writer⟩ := He.SaysD.def_ c.d 0 (d := dd_next_writer) rfl
  have unext_writer := yf_fun (L := inf) (adr := adr) (d := d_next_writer) rfl rfl (He.glo_ok KX G (He.SaysD.fact c.d 0 (f := .glo "next_writer") rfl)) Fnext_writer (fun _ _ _ _ _ _ us hl => match us, hl with | [_, _], _ => rfl)
  obtain ⟨fdmusts, Fmusts⟩ := He.SaysD.def_ c.d 1 (d := dd_musts) rfl
  have umusts := yf_fun (L := inf) (adr := adr) (d := d_musts) rfl rfl (He.glo_ok KX G (He.SaysD.fact c.d 1 (f := .glo "musts") rfl)) Fmusts (fun _ _ _ _ _ _ us hl => match us, hl with | [_], _ => rfl)
  obtain ⟨fdis_tale_order, Fis_tale_order⟩ := He.SaysD.def_ c.d 2 (d := dd_is_tale_order) rfl
  have uis_tale_order := yf_fun (L := inf) (adr := adr) (d := d_is_tale_order) rfl rfl (He.glo_ok KX G (He.SaysD.fact c.d 2 (f := .glo "is_tale_order") rfl)) Fis_tale_order (fun _ _ _ _ _ _ us hl => match us, hl with | [_, _], _ => rfl)
  obtain ⟨fdis_ring, Fis_ring⟩ := He.SaysD.def_ c.d 3 (d := dd_is_ring) rfl
  have uis_ring := yf_fun (L := inf) (adr := adr) (d := d_is_ring) rfl rfl (He.glo_ok KX G (He.SaysD.fact c.d 3 (f := .glo "is_ring") rfl)) Fis_ring (fun _ _ _ _ _ _ us hl => match us, hl with | [_, _], _ => rfl)
  obtain ⟨fdlaw_well, Flaw_well⟩ := He.SaysD.def_ c.d 4 (d := dd_law_well) rfl
  have ulaw_well := yf_fun (L := inf) (adr := adr) (d := d_law_well) rfl rfl (He.glo_ok KX G (He.SaysD.fact c.d 4 (f := .glo "_law_well") rfl)) Flaw_well (fun _ _ _ _ _ _ us hl => match us, hl with | [_, _], _ => rfl)
  obtain ⟨fdlaw_sip, Flaw_sip⟩ := He.SaysD.def_ c.d 5 (d := dd_law_sip) rfl
  have ulaw_sip := yf_fun (L := inf) (adr := adr) (d := d_law_sip) rfl rfl (He.glo_ok KX G (He.SaysD.fact c.d 5 (f := .glo "_law_sip") rfl)) Flaw_sip (fun _ _ _ _ _ _ us hl => match us, hl with | [_, _], _ => rfl)
  obtain ⟨fdlaw_mixed, Flaw_mixed⟩ := He.SaysD.def_ c.d 6 (d := dd_law_mixed) rfl
  have ulaw_mixed := yf_fun (L := inf) (adr := adr) (d := d_law_mixed) rfl rfl (He.glo_ok KX G (He.SaysD.fact c.d 6 (f := .glo "_law_mixed") rfl)) Flaw_mixed (fun _ _ _ _ _ _ us hl => match us, hl with | [_, _], _ => rfl)
  obtain ⟨fdlaw_tale, Flaw_tale⟩ := He.SaysD.def_ c.d 7 (d := dd_law_tale) rfl
  have ulaw_tale := yf_fun (L := inf) (adr := adr) (d := d_law_tale) rfl rfl (He.glo_ok KX G (He.SaysD.fact c.d 7 (f := .glo "_law_tale") rfl)) Flaw_tale (fun _ _ _ _ _ _ us hl => match us, hl with | [_, _], _ => rfl)
  obtain ⟨fdlaw_musts, Flaw_musts⟩ := He.SaysD.def_ c.d 8 (d := dd_law_musts) rfl
  have ulaw_musts := yf_fun (L := inf) (adr := adr) (d := d_law_musts) rfl rfl (He.glo_ok KX G (He.SaysD.fact c.d 8 (f := .glo "_law_musts") rfl)) Flaw_musts (fun _ _ _ _ _ _ us hl => match us, hl with | [_], _ => rfl)
  obtain ⟨fdlaw_is_order_2, Flaw_is_order_2⟩ := He.SaysD.def_ c.d 9 (d := dd_law_is_order_2) rfl
  have ulaw_is_order_2 := yf_fun (L := inf) (adr := adr) (d := d_law_is_order_2) rfl rfl (He.glo_ok KX G (He.SaysD.fact c.d 9 (f := .glo "_law_is_order") rfl)) Flaw_is_order_2 (fun _ _ _ _ _ _ us hl => match us, hl with | [_, _], _ => rfl)
  obtain ⟨fdlaw_is_ring, Flaw_is_ring⟩ := He.SaysD.def_ c.d 10 (d := dd_law_is_ring) rfl
  have ulaw_is_ring := yf_fun (L := inf) (adr := adr) (d := d_law_is_ring) rfl rfl (He.glo_ok KX G (He.SaysD.fact c.d 10 (f := .glo "_law_is_ring") rfl)) Flaw_is_ring (fun _ _ _ _ _ _ us hl => match us, hl with | [_, _], _ => rfl)
  obtain ⟨fdlaw_found, Flaw_found⟩ := He.SaysD.def_ c.d 11 (d := dd_law_found) rfl
  have ulaw_found := yf_fun (L := inf) (adr := adr) (d := d_law_found) rfl rfl (He.glo_ok KX G (He.SaysD.fact c.d 11 (f := .glo "_law_found") rfl)) Flaw_found (fun _ _ _ _ _ _ us hl => match us, hl with | [_], _ => rfl)
  obtain ⟨fdlaw_bent_7, Flaw_bent_7⟩ := He.SaysD.def_ c.d 12 (d := dd_law_bent_7) rfl
  have ulaw_bent_7 := yf_fun (L := inf) (adr := adr) (d := d_law_bent_7) rfl rfl (He.glo_ok KX G (He.SaysD.fact c.d 12 (f := .glo "_law_bent") rfl)) Flaw_bent_7 (fun _ _ _ _ _ _ us hl => match us, hl with | [_, _, _], _ => rfl)
  obtain ⟨fdlaw_29, Flaw_29⟩ := He.SaysD.def_ c.d 13 (d := dd_law_29) rfl
  have ulaw_29 := yf_fun (L := inf) (adr := adr) (d := d_law_29) rfl rfl (He.glo_ok KX G (He.SaysD.fact c.d 13 (f := .glo "law") rfl)) Flaw_29 (fun _ _ _ _ _ _ us hl => match us, hl with | [_], _ => rfl)
  have X : Facts inf K mg adr w := by
    refine ⟨fun d hd => ?_, fun c0 hc => ?_, fun g hg => ?_, fun x hx => ?_, fun g hg => ?_⟩
    · have hd : d ∈ [d_next_writer, d_musts, d_is_tale_order, d_is_ring, d_law_well, d_law_sip, d_law_mixed, d_law_tale, d_law_musts, d_law_is_order_2, d_law_is_ring, d_law_found, d_law_bent_7, d_law_29] := hd
      simp only [List.mem_cons, List.not_mem_nil, or_false] at hd
      rcases hd with rfl | rfl | rfl | rfl | rfl | rfl | rfl | rfl | rfl | rfl | rfl | rfl | rfl | rfl
      · exact ⟨_, _, unext_writer⟩
      · exact ⟨_, _, umusts⟩
      · exact ⟨_, _, uis_tale_order⟩
      · exact ⟨_, _, uis_ring⟩
      · exact ⟨_, _, ulaw_well⟩
      · exact ⟨_, _, ulaw_sip⟩
      · exact ⟨_, _, ulaw_mixed⟩
      · exact ⟨_, _, ulaw_tale⟩
      · exact ⟨_, _, ulaw_musts⟩
      · exact ⟨_, _, ulaw_is_order_2⟩
      · exact ⟨_, _, ulaw_is_ring⟩
      · exact ⟨_, _, ulaw_found⟩
      · exact ⟨_, _, ulaw_bent_7⟩
      · exact ⟨_, _, ulaw_29⟩
    · have hc : c0 ∈ ([] : List ClsI) := hc
      cases hc
    · have hg : g ∈ ([g_AT_FIRST] : List (Nat × Str × Vx)) := hg
      simp only [List.mem_cons, List.not_mem_nil, or_false] at hg
      rcases hg with rfl
      · exact yf_int KX G (He.SaysD.fact c.d 14 (f := .int "AT_FIRST" (-1)) rfl)
    · unfold bltNames at hx
      simp only [List.mem_cons, List.not_mem_nil, or_false] at hx
      rcases hx with rfl | rfl | rfl | rfl | rfl | rfl | rfl | rfl | rfl | rfl | rfl | rfl | rfl | rfl | rfl | rfl | rfl | rfl
      · exact He.free_ok KX G (He.SaysD.fact c.d 15 (f := .free "len") rfl)
      · exact He.free_ok KX G (He.SaysD.fact c.d 16 (f := .free "int") rfl)
      · exact He.free_ok KX G (He.SaysD.fact c.d 17 (f := .free "str") rfl)
      · exact He.free_ok KX G (He.SaysD.fact c.d 18 (f := .free "list") rfl)
      · exact He.free_ok KX G (He.SaysD.fact c.d 19 (f := .free "tuple") rfl)
      · exact He.free_ok KX G (He.SaysD.fact c.d 20 (f := .free "sorted") rfl)
      · exact He.free_ok KX G (He.SaysD.fact c.d 21 (f := .free "all") rfl)
      · exact He.free_ok KX G (He.SaysD.fact c.d 22 (f := .free "any") rfl)
      · exact He.free_ok KX G (He.SaysD.fact c.d 23 (f := .free "min") rfl)
      · exact He.free_ok KX G (He.SaysD.fact c.d 24 (f := .free "max") rfl)
      · exact He.free_ok KX G (He.SaysD.fact c.d 25 (f := .free "range") rfl)
      · exact He.free_ok KX G (He.SaysD.fact c.d 26 (f := .free "enumerate") rfl)
      · exact He.free_ok KX G (He.SaysD.fact c.d 27 (f := .free "zip") rfl)
      · exact He.free_ok KX G (He.SaysD.fact c.d 28 (f := .free "isinstance") rfl)
      · exact He.free_ok KX G (He.SaysD.fact c.d 29 (f := .free "bool") rfl)
      · exact He.free_ok KX G (He.SaysD.fact c.d 30 (f := .free "dict") rfl)
      · exact He.free_ok KX G (He.SaysD.fact c.d 31 (f := .free "sum") rfl)
      · exact He.free_ok KX G (He.SaysD.fact c.d 32 (f := .free "set") rfl)
    · have hg : g ∈ ([] : List (Nat × Str × List (List Nat × D))) := hg
      cases hg
  have e := hfa.symm.trans (He.glo_ok KX G (He.SaysD.fact c.d 13 (f := .glo "law") rfl))
  cases e
  exact ⟨_, fun s v => FunD.bindsA (ps := ["script"]) Flaw_29 (fun _ _ _ _ _ _ us hl => match us, hl with | [_], _ => rfl) s [v] rfl, fun base _ _ => law_ok inf_chk X (show d_law_29 ∈ [d_next_writer, d_musts, d_is_tale_order, d_is_ring, d_law_well, d_law_sip, d_law_mixed, d_law_tale, d_law_musts, d_law_is_order_2, d_law_is_ring, d_law_found, d_law_bent_7, d_law_29] by simp only [List.mem_cons, true_or, or_true]) rfl h2 ulaw_29⟩
end LW
open PySem PySem.W PySem.Calls PyProof.Rows in
set_option maxRecDepth 100000 in
set_option maxHeartbeats 0 in
theorem PySem.Challenge.cw_oneglance_k29_orders_and_rings_looked_at_holds : PySem.Challenge.rw_oneglance_k29_orders_and_rings_looked_at.Holds := by
  w_on; o_law
  refine HandSHeadRun.head_any (r := (OpenLaw.row PySem.Challenge.rw_oneglance_k29_orders_and_rings_looked_at)) (q := view (OpenLaw.row PySem.Challenge.rw_oneglance_k29_orders_and_rings_looked_at).prog [16]) (H := LW.hk) (ob := LW.ob) (M := 20000) (loose := LW.names) (d := HandSHeadRun.topDef (OpenLaw.row PySem.Challenge.rw_oneglance_k29_orders_and_rings_looked_at).prog 16) (kwd := []) LW.ob_eq (by kernel_rfl) (fun s => by kernel_rfl) LW.run (by kernel_rfl) (by kernel_rfl) (by kernel_rfl) (by rfl) (by first | assumption | decide +kernel) (by decide +kernel) ⟨rfl, rfl, rfl, rfl, rfl, by decide +kernel⟩ ?hw ?hc
  case hw => w_witness2
  case hc =>
    refine DL.walkE (l := PySem.Challenge.rw_oneglance_k29_orders_and_rings_looked_at) rfl (by kernel_rfl) ?F
    intro w mg fa h Y G hmg0
    obtain ⟨K, KX, c⟩ := Y
    have hmg : mg ("law" : PySem.Str) = some (.ref fa) := by
      have e : (HandSHeadRun.topDef (OpenLaw.row PySem.Challenge.rw_oneglance_k29_orders_and_rings_looked_at).prog 16).name = ("law" : PySem.Str) := by kernel_rfl
      rw [← e]
      exact hmg0
    obtain ⟨fd, hb, hF⟩ := LW.facts (l := PySem.Challenge.rw_oneglance_k29_orders_and_rings_looked_at) (w := w) KX G hmg c LW.law2
    exact ⟨K, fd, KX, hb, hF⟩