import PyProof.Rows.All
import Wide.All
import OpenK.AllK
import Wide.FinOn
import HandS.ForMost
import HandS.Wide
import HandS.Text
import HandS.Deep
import KE.KDictKeyed
import KE.KeyNested
import HandS.TupAny
import HandS.TupMul
import HandS.IsInst
import HandS.Style
import HandS.SortInts
import HandS.Zip
import PyProof.ReprRoads
import HandS.Conv
import HandS.TupLen
import HandS.More
import HandS.SetFor
import HandS.DictTup
import HandS.TupSets
import PyProof.Rows.TupMore
import KE.KDictSum
import PyProof.SeqIndex
import KE.GoesEnum
import HandS.TryOnly
import HandS.Iter
import KE.KDictDisplayH
import KE.KDictIter
import HandS.EndBits
import HandS.Defaults
import HandS.Head2
import HandS.HeadEnd
import HandS.HeadHook2
import HandS.HeadHook3
import PySem.Challenge.RW_oneglance_k60_dealings_written
set_option Elab.async false
set_option linter.all false
set_option maxRecDepth 100000
set_option maxHeartbeats 4000000
namespace DL
open PySem L2
inductive D where
  | non | bl (b : Bool) | int (i : Int) | str (s : List Nat) | ref (a : Addr) | tup (ds : List D) | xt (ds : List D)
  deriving Inhabited
inductive Vx where
  | d (x : D) | vl (ds : List D) | bw (ds : List D) | fz (ds : List D) | vd (kvs : List (D × D)) | bd (kvs : List (D × D)) | st (ds : List D)
inductive O where
  | lst (ds : List D) | dic (kvs : List (D × D)) | ins (c : Nat) (fs : List D)
  | fdc (kvs : List (D × D)) (h : HO)
  | dn (kvs : List (D × D)) | fdn (kvs : List (D × D)) (h : HO) (xs : List (NestedKey × Addr × Value))
noncomputable abbrev Hs := Addr → Option O
noncomputable def su (s : Hs) (a : Addr) (o : O) : Hs := fun b => if b = a then some o else s b
noncomputable def mn (a : Addr) (s : Hs) : Hs := fun b => if b = a then none else s b
theorem mn_same {s : Hs} {a : Addr} : mn a s a = none := by unfold mn; rw [if_pos rfl]
theorem mn_ne {s : Hs} {a b : Addr} (h : b ≠ a) : mn a s b = s b := by unfold mn; rw [if_neg h]
theorem su_same {s : Hs} {a : Addr} {o : O} : su s a o a = some o := by unfold su; rw [if_pos rfl]
theorem su_ne {s : Hs} {a b : Addr} {o : O} (h : b ≠ a) : su s a o b = s b := by unfold su; rw [if_neg h]
noncomputable abbrev Sl := List (Option Vx)
inductive Cn where
  | l (ds : List D) | f (ds : List D) | k (kvs : List (D × D)) | t (ds : List D) | s (cs : List Nat) | i (c : Nat) (fs : List D) | e (ds : List D) | kf (kvs : List (D × D)) | kn (kvs : List (D × D)) | kfn (kvs : List (D × D))
noncomputable def O.cn : O → Cn
  | .lst ds => .l ds
  | .dic kvs => .k kvs
  | .ins c fs => .i c fs
  | .fdc kvs _ => .kf kvs
  | .dn kvs => .kn kvs
  | .fdn kvs _ _ => .kfn kvs
noncomputable def view : Vx → Hs → (Cn → Prop) → Prop
  | .d (.tup ds), _, K => K (.t ds)
  | .d (.xt ds), _, K => K (.t ds)
  | .d (.str s), _, K => K (.s s)
  | .d (.ref a), S, K => ∃ o, S a = some o ∧ K o.cn
  | .vl ds, _, K => K (.l ds)
  | .bw ds, _, K => K (.l ds)
  | .fz ds, _, K => K (.f ds)
  | .vd kvs, _, K => K (.k kvs)
  | .bd kvs, _, K => K (.k kvs)
  | .st ds, _, K => K (.e ds)
  | _, _, _ => False
noncomputable def bor : Vx → Vx
  | .vl ds => .bw ds
  | .vd kvs => .bd kvs
  | x => x
noncomputable def bx : Vx → Hs → (D → Hs → Prop) → Prop
  | .d x, S, K => K x S
  | .vl ds, S, K => ∀ a, S a = none → K (.ref a) (su S a (.lst ds))
  | .vd kvs, S, K => ∀ a, S a = none → K (.ref a) (su S a (.dic kvs))
  | _, _, _ => False
mutual
noncomputable def eqB : D → D → Bool
  | .non, .non => true
  | .bl a, .bl b => a == b
  | .bl a, .int j => decide ((if a then 1 else 0 : Int) = j)
  | .int i, .bl b => decide (i = (if b then 1 else 0 : Int))
  | .int i, .int j => decide (i = j)
  | .str a, .str b => decide (a = b)
  | .tup a, .tup b => eqBs a b
  | _, _ => false
noncomputable def eqBs : List D → List D → Bool
  | [], [] => true
  | a :: as, b :: bs => eqB a b && eqBs as bs
  | _, _ => false
end
mutual
noncomputable def pl : Nat → D → Bool
  | _, .ref _ => false
  | _, .xt _ => false
  | 0, .tup _ => false
  | n + 1, .tup ds => pls n ds
  | _, .str s => s.all fun c => decide (c < 1114112)
  | _, _ => true
noncomputable def pls : Nat → List D → Bool
  | _, [] => true
  | n, d :: ds => pl n d && pls n ds
end
noncomputable abbrev pln (d : D) : Bool := pl 60 d
noncomputable abbrev plns (ds : List D) : Bool := pls 60 ds
noncomputable def flatD : D → Bool
  | .tup _ => false
  | .xt _ => false
  | .ref _ => false
  | _ => true
noncomputable def getI {α : Type} (ds : List α) (i : Int) : Option α := match i with
  | .ofNat n => ds[n]?
  | .negSucc n => if n < ds.length then ds[ds.length - (n + 1)]? else none
noncomputable def dget : List (D × D) → D → Option D
  | [], _ => none
  | (k, v) :: r, x => match eqB k x with
    | true => some v
    | false => dget r x
noncomputable def dhas (kvs : List (D × D)) (x : D) : Bool := (dget kvs x).isSome
noncomputable def dput (kvs : List (D × D)) (x y : D) : List (D × D) := match dhas kvs x with
  | true => kvs.map fun p => match eqB p.1 x with
    | true => (p.1, y)
    | false => p
  | false => kvs ++ [(x, y)]
noncomputable def keyD : D → Bool
  | .int _ => true
  | .str _ => true
  | _ => false
noncomputable def keyN : D → Bool
  | .tup ds => pl 8 (.tup ds)
  | _ => false
noncomputable def seqOf : Cn → Option (List D)
  | .l ds => some ds
  | .f ds => some ds
  | .t ds => some ds
  | _ => none
inductive O2 where
  | add | sub | mul | fdiv | mod | pow | idx | eq | ne | lt | le | gt | ge | is | isnt | mem | nmem | min | max | eqh | neh | memh | nmemh | memr | nmemr
  deriving DecidableEq
inductive Ty where
  | int | bool | str | tuple | list | dict
  deriving DecidableEq
inductive O1 where
  | neg | len | int | str | list | tuple | sorted | all | any | dict | dictP | sortedP | sum | maxl | minl | sortedN | sortedDn | listDn | listK | lenDn | tupleX | isi (t : Ty)
  deriving DecidableEq
noncomputable def mulOk (i j : Int) : Prop := ((-(2 ^ 64) < i ∧ i < 2 ^ 64) ∨ (-(2 ^ 64) < j ∧ j < 2 ^ 64)) ∨ i.natAbs.log2 + j.natAbs.log2 < 1000000
noncomputable def fdivOk (_ j : Int) : Prop := 0 < j ∧ j.natAbs.log2 < 9000
noncomputable def powOk (i j : Int) : Prop := 0 ≤ j ∧ j ≤ 1000000 ∧ i.natAbs < 2 ^ 64
noncomputable abbrev VK2 := Vx → Hs → Prop
noncomputable def addC : Cn → Cn → Hs → VK2 → Prop
  | .l a, .l b, S, Q => a.length + b.length ≤ sizeLine ∧ Q (.vl (a ++ b)) S
  | _, _, _, _ => False
noncomputable def addD : Vx → Vx → Hs → VK2 → Prop
  | .d (.int i), .d (.int j), S, Q => Q (.d (.int (i + j))) S
  | .d (.str a), .d (.str b), S, Q => a.length + b.length ≤ sizeLine ∧ Q (.d (.str (a ++ b))) S
  | .d (.tup a), .d (.tup b), S, Q => a.length + b.length ≤ sizeLine ∧ Q (.d (.tup (a ++ b))) S
  | x, y, S, Q => view x S fun c => view y S fun c' => addC c c' S Q
noncomputable def repD {α : Type} (xs : List α) (n : Nat) : List α := (List.replicate n xs).flatten
noncomputable def mulC : Cn → Int → Hs → VK2 → Prop
  | .l a, k, S, Q => k < 2 ^ 62 ∧ a.length * k.toNat ≤ sizeLine ∧ Q (.vl (repD a k.toNat)) S
  | _, _, _, _ => False
noncomputable def mulD : Vx → Vx → Hs → VK2 → Prop
  | .d (.int i), .d (.int j), S, Q => mulOk i j ∧ Q (.d (.int (i * j))) S
  | .d (.tup a), .d (.int k), S, Q => (-(2 ^ 62) < k ∧ k ≤ 1000 ∧ a.length ≤ 1000) ∧ Q (.d (.tup (repD a k.toNat))) S
  | x, .d (.int k), S, Q => -(2 ^ 62) < k ∧ view x S fun c => mulC c k S Q
  | _, _, _, _ => False
noncomputable def intD (f : Int → Int → VK2 → Hs → Prop) : Vx → Vx → Hs → VK2 → Prop
  | .d (.int i), .d (.int j), S, Q => f i j Q S
  | _, _, _, _ => False
noncomputable def idxC : Cn → D → Hs → VK2 → Prop
  | .l ds, .int i, S, Q => ∃ y, getI ds i = some y ∧ Q (.d y) S
  | .f ds, .int i, S, Q => ∃ y, getI ds i = some y ∧ Q (.d y) S
  | .t ds, .int i, S, Q => ∃ y, getI ds i = some y ∧ Q (.d y) S
  | .s cs, .int i, S, Q => cs.length ≤ sizeLine ∧ ∃ c, getI cs i = some c ∧ Q (.d (.str [c])) S
  | .k kvs, x, S, Q => keyD x = true ∧ ∃ y, dget kvs x = some y ∧ Q (.d y) S
  | .kf kvs, x, S, Q => keyD x = true ∧ ∃ y, dget kvs x = some y ∧ Q (.d y) S
  | .kn kvs, x, S, Q => keyN x = true ∧ ∃ y, dget kvs x = some y ∧ Q (.d y) S
  | .kfn kvs, x, S, Q => keyN x = true ∧ ∃ y, dget kvs x = some y ∧ Q (.d y) S
  | _, _, _, _ => False
noncomputable def idxD : Vx → Vx → Hs → VK2 → Prop
  | x, .d k, S, Q => view x S fun c => idxC c k S Q
  | _, _, _, _ => False
noncomputable def eqC : Cn → Cn → (Bool → Prop) → Prop
  | .l a, .l b, K => (b = [] ∨ (plns a = true ∧ plns b = true)) ∧ K (eqBs a b)
  | .k a, .k b, K => b = [] ∧ K a.isEmpty
  | _, _, _ => False
noncomputable def eqD : Vx → Vx → Hs → (Bool → Prop) → Prop
  | .d (.ref a), y, S, K => view (.d (.ref a)) S fun c => view y S fun c' => eqC c c' K
  | .d x, .d (.ref b), S, K => False
  | .d x, .d y, _, K => pln x = true ∧ pln y = true ∧ K (eqB x y)
  | x, y, S, K => view x S fun c => view y S fun c' => eqC c c' K
noncomputable def isD : Vx → Vx → Option Bool
  | .d .non, .d .non => some true
  | _, .d .non => some false
  | .d (.bl a), .d (.bl b) => some (decide (a = b))
  | _, _ => none
noncomputable def memC : Cn → D → (Bool → Prop) → Prop
  | .l ds, x, K => pln x = true ∧ plns ds = true ∧ K (ds.any fun y => eqB y x)
  | .t ds, x, K => flatD x = true ∧ ds.all flatD = true ∧ K (ds.any fun y => eqB y x)
  | .k kvs, x, K => keyD x = true ∧ K (dhas kvs x)
  | .kf kvs, x, K => keyD x = true ∧ K (dhas kvs x)
  | .kn kvs, x, K => keyN x = true ∧ K (dhas kvs x)
  | .kfn kvs, x, K => keyN x = true ∧ K (dhas kvs x)
  | .s cs, .str [c], K => K (decide (c ∈ cs))
  | _, _, _ => False
noncomputable def memD : Vx → Vx → Hs → (Bool → Prop) → Prop
  | .d x, y, S, K => view y S fun c => memC c x K
  | _, _, _, _ => False
noncomputable def memHC : Cn → D → (Bool → Prop) → Prop
  | .t ds, x, K => pln x = true ∧ (pls 59 ds = true ∧ plns ds = true) ∧ K (ds.any fun y => eqB y x)
  | _, _, _ => False
noncomputable def memH : Vx → Vx → Hs → (Bool → Prop) → Prop
  | .d x, y, S, K => view y S fun c => memHC c x K
  | _, _, _, _ => False
noncomputable def ltD (p : Int → Int → Bool) : Vx → Vx → Hs → VK2 → Prop := intD fun i j Q S => Q (.d (.bl (p i j))) S
mutual
noncomputable def resP (S : Hs) : Nat → D → Option PyData
  | _, .non => some .none
  | _, .bl b => some (.bool b)
  | _, .int i => some (.int i)
  | _, .str s => some (.str ⟨s.toArray⟩)
  | n + 1, .tup ds => (resPs S n ds).map PyData.tuple
  | n + 1, .xt ds => (resPs S n ds).map PyData.tuple
  | n + 1, .ref a => match S a with
    | some (.lst ds) => (resPs S n ds).map PyData.list
    | _ => none
  | 0, _ => none
  termination_by n d => (n, sizeOf d)
noncomputable def resPs (S : Hs) : Nat → List D → Option (List PyData)
  | _, [] => some []
  | n, d :: ds => match resP S n d, resPs S n ds with
    | some p, some ps => some (p :: ps)
    | _, _ => none
  termination_by n ds => (n, sizeOf ds)
end
noncomputable def resX (S : Hs) : Vx → Option PyData
  | .d x => resP S 50 x
  | .vl ds => (resPs S 49 ds).map PyData.list
  | .bw ds => (resPs S 49 ds).map PyData.list
  | _ => none
noncomputable def eqH (x y : Vx) (S : Hs) (K : Bool → Prop) : Prop := ∃ p q, resX S x = some p ∧ resX S y = some q ∧ SeqAt.shaped p = true ∧ SeqAt.shaped q = true ∧ K (PyData.eqv p q)
noncomputable def memR (x y : Vx) (S : Hs) (K : Bool → Prop) : Prop := ∃ p q ps, resX S x = some p ∧ resX S y = some q ∧ SeqAt.shaped p = true ∧ SeqAt.shaped q = true ∧ (q = .tuple ps ∨ q = .list ps) ∧ K (ps.any fun z => PyData.eqv z p)
noncomputable def op2D : O2 → Vx → Vx → Hs → VK2 → Prop
  | .add, x, y, S, Q => addD x y S Q
  | .sub, x, y, S, Q => intD (fun i j Q S => Q (.d (.int (i - j))) S) x y S Q
  | .mul, x, y, S, Q => mulD x y S Q
  | .fdiv, x, y, S, Q => intD (fun i j Q S => fdivOk i j ∧ Q (.d (.int (i / j))) S) x y S Q
  | .mod, x, y, S, Q => intD (fun i j Q S => 0 < j ∧ Q (.d (.int (i % j))) S) x y S Q
  | .pow, x, y, S, Q => intD (fun i j Q S => powOk i j ∧ Q (.d (.int (i ^ j.toNat))) S) x y S Q
  | .idx, x, y, S, Q => idxD x y S Q
  | .eq, x, y, S, Q => eqD x y S fun b => Q (.d (.bl b)) S
  | .ne, x, y, S, Q => eqD x y S fun b => Q (.d (.bl (!b))) S
  | .eqh, x, y, S, Q => eqH x y S fun b => Q (.d (.bl b)) S
  | .neh, x, y, S, Q => eqH x y S fun b => Q (.d (.bl (!b))) S
  | .lt, x, y, S, Q => ltD (fun i j => decide (i < j)) x y S Q
  | .le, x, y, S, Q => ltD (fun i j => decide (i ≤ j)) x y S Q
  | .gt, x, y, S, Q => ltD (fun i j => decide (j < i)) x y S Q
  | .ge, x, y, S, Q => ltD (fun i j => decide (j ≤ i)) x y S Q
  | .is, x, y, S, Q => ∃ b, isD x y = some b ∧ Q (.d (.bl b)) S
  | .isnt, x, y, S, Q => ∃ b, isD x y = some b ∧ Q (.d (.bl (!b))) S
  | .mem, x, y, S, Q => memD x y S fun b => Q (.d (.bl b)) S
  | .nmem, x, y, S, Q => memD x y S fun b => Q (.d (.bl (!b))) S
  | .memh, x, y, S, Q => memH x y S fun b => Q (.d (.bl b)) S
  | .nmemh, x, y, S, Q => memH x y S fun b => Q (.d (.bl (!b))) S
  | .memr, x, y, S, Q => memR x y S fun b => Q (.d (.bl b)) S
  | .nmemr, x, y, S, Q => memR x y S fun b => Q (.d (.bl (!b))) S
  | .min, x, y, S, Q => intD (fun i j Q S => Q (.d (.int (if j < i then j else i))) S) x y S Q
  | .max, x, y, S, Q => intD (fun i j Q S => Q (.d (.int (if j > i then j else i))) S) x y S Q
noncomputable def lenC : Cn → Option Nat
  | .l ds => some ds.length
  | .f ds => some ds.length
  | .t ds => some ds.length
  | .k kvs => some kvs.length
  | .s cs => if cs.length ≤ sizeLine then some cs.length else none
  | .e ds => some ds.length
  | .i _ _ => none
  | .kf _ => none
  | .kn _ => none
  | .kfn _ => none
noncomputable def Ty.isD : Ty → D → Hs → Option Bool
  | t, .non, _ => some false
  | t, .bl _, _ => some (decide (t = .bool) || decide (t = .int))
  | t, .int _, _ => some (decide (t = .int))
  | t, .str _, _ => some (decide (t = .str))
  | t, .tup _, _ => some (decide (t = .tuple))
  | t, .xt _, _ => some (decide (t = .tuple))
  | t, .ref a, S => match S a with
    | some (.lst _) => some (decide (t = .list))
    | some (.dic _) => some (decide (t = .dict))
    | _ => none
noncomputable def negD : Vx → Hs → VK2 → Prop
  | .d (.int i), S, Q => Q (.d (.int (-i))) S
  | _, _, _ => False
noncomputable def toIntD : Vx → Hs → VK2 → Prop
  | .d (.int i), S, Q => Q (.d (.int i)) S
  | .d (.bl b), S, Q => Q (.d (.int (if b then 1 else 0))) S
  | .d (.str s), S, Q => ∃ n, (PySem.intText? (⟨s.toArray⟩ : Str) = some n ∧ s.length ≤ 640) ∧ Q (.d (.int n)) S
  | _, _, _ => False
noncomputable def shWords : List (List Nat) := [[108, 111, 111, 107], [112, 117, 116], [115, 101, 116], [112, 108, 117, 115], [108, 101, 97, 112], [119, 97, 105, 116], [116, 114, 121]]
mutual
noncomputable def shD : D → Bool
  | .int i => decide (0 ≤ i) && decide (i ≤ 1000)
  | .str s => decide (s ∈ shWords)
  | .tup ds => shDs ds
  | _ => false
noncomputable def shDs : List D → Bool
  | [] => true
  | d :: ds => shD d && shDs ds
end
mutual
noncomputable def shL : D → Nat
  | .tup ds => 5 + shLs ds
  | _ => 8
noncomputable def shLs : List D → Nat
  | [] => 0
  | d :: ds => shL d + 2 + shLs ds
end
noncomputable def strD : Vx → Hs → VK2 → Prop
  | .d (.int i), S, Q => i.natAbs.log2 < 1920 ∧ Q (.d (.str ((toString i : String).toList.map Char.toNat))) S
  | .d (.tup ds), S, Q => (pls 40 ds = true ∧ shDs ds = true ∧ shLs ds ≤ 1000000) ∧ ∀ t : List Nat, (t.all fun c => decide (c < 1114112)) = true → Q (.d (.str t)) S
  | _, _, _ => False
noncomputable def isiD (t : Ty) : Vx → Hs → VK2 → Prop
  | .d x, S, Q => ∃ b, t.isD x S = some b ∧ Q (.d (.bl b)) S
  | .bw _, S, Q => Q (.d (.bl (decide (t = .list)))) S
  | _, _, _ => False
noncomputable def srtOf (c : Cn) (ns : List Int) : Prop := c = .l (ns.map D.int) ∨ (∃ kvs, c = .k kvs ∧ kvs.map Prod.fst = ns.map D.int ∧ ns.length < 64) ∨ c = .t (ns.map D.int)
noncomputable abbrev pairD (p : Int × Int) : D := .tup [.int p.1, .int p.2]
noncomputable def ltP2 (p q : Int × Int) : Prop := p.1 < q.1 ∨ (p.1 = q.1 ∧ p.2 < q.2)
noncomputable def srtP (qs : List (Int × Int)) : Prop := qs.Pairwise fun p q => ¬ ltP2 q p
noncomputable def mrgD (kvs more : List (D × D)) : List (D × D) := more.foldl (fun acc kv => dput acc kv.1 kv.2) kvs
noncomputable abbrev tupI (p : List Int) : D := .tup (p.map D.int)
noncomputable def lexN : List Int → List Int → Bool
  | [], [] => false
  | [], _ :: _ => true
  | _ :: _, [] => false
  | x :: p, y :: q => if x = y then lexN p q else decide (x < y)
noncomputable def srtN (ps : List (List Int)) : Prop := ps.Pairwise fun p q => lexN q p = false
noncomputable def op1D : O1 → Vx → Hs → VK2 → Prop
  | .neg, x, S, Q => negD x S Q
  | .len, x, S, Q => view x S fun c => ∃ n, lenC c = some n ∧ Q (.d (.int (n : Int))) S
  | .int, x, S, Q => toIntD x S Q
  | .str, x, S, Q => strD x S Q
  | .list, x, S, Q => view x S fun c => ∃ ds, seqOf c = some ds ∧ Q (.vl ds) S
  | .tuple, x, S, Q => view x S fun c => ∃ ds, seqOf c = some ds ∧ Q (.d (.tup ds)) S
  | .tupleX, x, S, Q => view x S fun c => ∃ ds, c = .l ds ∧ Q (.d (.xt ds)) S
  | .sorted, x, S, Q => view x S fun c => ∃ ns : List Int, srtOf c ns ∧ ∀ ns' : List Int, ns'.Perm ns → ns'.Pairwise (· ≤ ·) → Q (.vl (ns'.map D.int)) S
  | .sortedP, x, S, Q => view x S fun c => ∃ ps : List (Int × Int), c = .l (ps.map pairD) ∧ ∀ qs : List (Int × Int), qs.Perm ps → srtP qs → Q (.vl (qs.map pairD)) S
  | .sortedN, x, S, Q => view x S fun c => ∃ ps : List (List Int), c = .l (ps.map tupI) ∧ (∀ p ∈ ps, p ≠ []) ∧ ∀ qs : List (List Int), qs.Perm ps → srtN qs → Q (.vl (qs.map tupI)) S
  | .sortedDn, x, S, Q => view x S fun c => ∃ (kvs : List (D × D)) (ps : List (List Int)), c = .kn kvs ∧ kvs.map Prod.fst = ps.map tupI ∧ (∀ p ∈ ps, p ≠ []) ∧ ∀ qs : List (List Int), qs.Perm ps → srtN qs → Q (.vl (qs.map tupI)) S
  | .listK, x, S, Q => view x S fun c => ∃ kvs, c = .k kvs ∧ Q (.vl (kvs.map Prod.fst)) S
  | .listDn, x, S, Q => view x S fun c => ∃ kvs, c = .kn kvs ∧ Q (.vl (kvs.map Prod.fst)) S
  | .lenDn, x, S, Q => view x S fun c => ∃ kvs, c = .kn kvs ∧ Q (.d (.int (kvs.length : Nat))) S
  | .sum, x, S, Q => view x S fun c => ∃ ns : List Int, c = .l (ns.map D.int) ∧ Q (.d (.int ns.sum)) S
  | .maxl, x, S, Q => view x S fun c => ∃ ns : List Int, c = .l (ns.map D.int) ∧ 0 < ns.length ∧ ∀ m, m ∈ ns → (∀ y, y ∈ ns → y ≤ m) → Q (.d (.int m)) S
  | .minl, x, S, Q => view x S fun c => ∃ ns : List Int, c = .l (ns.map D.int) ∧ 0 < ns.length ∧ ∀ m, m ∈ ns → (∀ y, y ∈ ns → m ≤ y) → Q (.d (.int m)) S
  | .dict, x, S, Q => view x S fun c => ∃ kvs, c = .k kvs ∧ Q (.vd kvs) S
  | .dictP, x, S, Q => view x S fun c => ∃ ps : List (Int × Int), c = .l (ps.map pairD) ∧ Q (.vd (mrgD [] (ps.map fun p => (D.int p.1, D.int p.2)))) S
  | .all, x, S, Q => view x S fun c => ∃ (ds : List D) (bs : List Bool), c = .l ds ∧ ds = bs.map D.bl ∧ Q (.d (.bl (bs.all id))) S
  | .any, x, S, Q => view x S fun c => ∃ (ds : List D) (bs : List Bool), c = .l ds ∧ ds = bs.map D.bl ∧ Q (.d (.bl (bs.any id))) S
  | .isi t, x, S, Q => isiD t x S Q
inductive M where
  | append | pop | popAt | insert | extend | clear | setI | remove
  deriving DecidableEq
noncomputable def ddrop (kvs : List (D × D)) (k : D) : List (D × D) := kvs.filter fun p => !eqB p.1 k
noncomputable def mutC : M → Cn → List Vx → Hs → (Cn → D → Prop) → Prop
  | .append, .l ds, [.d x], _, K => ds.length < sizeLine ∧ K (.l (ds ++ [x])) .non
  | .pop, .l ds, [], _, K => ∃ y, ds[ds.length - 1]? = some y ∧ K (.l ds.dropLast) y
  | .popAt, .l ds, [.d (.int (.ofNat n))], _, K => ∃ y, ds[n]? = some y ∧ K (.l (ds.eraseIdx n)) y
  | .setI, .l ds, [.d (.int (.ofNat n)), .d x], _, K => n < ds.length ∧ K (.l (ds.set n x)) .non
  | .setI, .l ds, [.d (.int (.negSucc n)), .d x], _, K => n < ds.length ∧ K (.l (ds.set (ds.length - (n + 1)) x)) .non
  | .setI, .k kvs, [.d k, .d x], _, K => keyD k = true ∧ kvs.length < sizeLine ∧ K (.k (dput kvs k x)) .non
  | .setI, .kn kvs, [.d k, .d x], _, K => keyN k = true ∧ kvs.length < sizeLine ∧ K (.kn (dput kvs k x)) .non
  | .insert, .l ds, [.d (.int (.ofNat n)), .d x], _, K => ds.length < sizeLine ∧ n < 1000000 ∧ K (.l (ds.take n ++ [x] ++ ds.drop n)) .non
  | .extend, .l ds, [x], S, K => view x S fun c => ∃ es, c = .l es ∧ ds.length + es.length ≤ sizeLine ∧ K (.l (ds ++ es)) .non
  | .clear, .l ds, [], _, K => K (.l []) .non
  | .remove, .l ds, [.d (.int k)], _, K => ∃ (ns : List Int) (j : Nat), ds = ns.map D.int ∧ ns[j]? = some k ∧ (∀ m : Nat, m < j → ns[m]? ≠ some k) ∧ K (.l ((ns.eraseIdx j).map D.int)) .non
  | _, _, _, _, _ => False
noncomputable def Cn.o : Cn → Option O
  | .l ds => some (.lst ds)
  | .k kvs => some (.dic kvs)
  | .kn kvs => some (.dn kvs)
  | _ => none
noncomputable def Cn.v : Cn → Vx
  | .l ds => .vl ds
  | .k kvs => .vd kvs
  | _ => .d .non
inductive BM where
  | index | count | join | split | indexT
  deriving DecidableEq
inductive Tg where
  | nm (i : Nat) | tp (is : List Nat)
  deriving DecidableEq
inductive R where
  -- expressions
  | v (i : Nat) | i (n : Int) | s (x : List Nat) | b (x : Bool) | n | g (k : Nat)
  | o1 (o : O1) (a : R) | o2 (o : O2) (a b : R)
  | nil | cons (a r : R) | consb (a r : R) | pr (k v r : R)
  | tup (as : R) | lst (as : R) | dct | dctp (ps : R) | get1 (o k : R) | dpop (o k : R) | get2 (o k d : R) | get2N (o k d : R)
  | and (a r : R) | or (a r : R) | one (a : R) | not (a : R) | ife (c a b : R)
  | chain (o o' : O2) (a b c : R)
  | slc (a lo hi : R)
  | call (f : Nat) (as : R) | meth (f : Nat) (o as : R) | make (c : Nat) (as : R) | maken (c : Nat) (as : R)
  | fld (o : R) (ci k : Nat)
  | hm (m : M) (o as : R)
  | comp (tg : Tg) (elt it tst : R) | lockE (e : R)
  | sIt (e : R) | rev (e : R) | lrg (a : R) | bm1 (m : BM) (o a : R) | upper (o : R) | setop (k : Bool) (a : R) | slen (a : R)
  | lend (i : Nat) (e : R) | kmem (neg : Bool) (k : Nat) (a : R) | kidx (k : Nat) (a : R) | dctn | lockEN (e : R) | stp (a k : R) | dctn1 (k v : R) | lockV (e : R)
  -- what is walked
  | itv (i : Nat) | ite (e : R) | ichs (e : R) | rng (a : R) | rng2 (a b : R) | rng3 (a b s : R) | enu (a : R) | zip (a b : R) | itk (e : R) | itms (e : R) | itkn (e : R) | enuk (e : R)
  -- statements
  | seq (a r : R) | skip | expr (e : R) | set (i : Nat) (e : R) | setT (is : List Nat) (e : R)
  | seti (o k e : R) | fset (o : R) (ci k : Nat) (e : R) | setNAN (i : Nat) (o : R) (ci k j : Nat) (e : R)
  | iff (c a r : R) | whl (c a : R) | for (tg : Tg) (it a : R)
  | ret (e : R) | retn | retv (i : Nat) | brk | cnt | never | box (i : Nat)
  | om (m : M) (i : Nat) (as : R) (dst : Option Nat) | oseti (i : Nat) (k e : R) | faug (o : R) (ci k : Nat) (e : R) | lock (st : R) | tryp (st : R) | lockN (st : R) | slcset (o e : R)
  deriving Inhabited
structure Fn where
  np : Nat
  nl : Nat
  body : R
structure Tbl where
  fn : Nat → Option Fn
  glob : Nat → Vx
  cini : Nat → Nat
  fcls : Nat → Nat
  kd : Nat → List (List Nat × D)
noncomputable abbrev LK2 := List Vx → Hs → Prop
noncomputable def one1 (Q : VK2) : LK2 := fun xs S => match xs with
  | [x] => Q x S
  | _ => False
noncomputable def tstK (K : Bool → Hs → Prop) : VK2 := fun x S => match x with
  | .d (.bl b) => K b S
  | _ => False
structure Br (b : Bool) (A B : Prop) : Prop where
  t : b = true → A
  f : b = false → B
structure It2 where
  items : List D
  ok : Sl → Hs → Prop
  tu : Bool
noncomputable def bindN : List Nat → List D → Sl → Option Sl
  | [], [], σ => some σ
  | i :: is, x :: xs, σ => bindN is xs (σ.set i (some (.d x)))
  | _, _, _ => none
noncomputable def bindT : Tg → D → Sl → (Sl → Prop) → Prop
  | .nm i, x, σ, K => K (σ.set i (some (.d x)))
  | .tp is, .tup xs, σ, K => ∃ σ', bindN is xs σ = some σ' ∧ K σ'
  | _, _, _, _ => False
noncomputable def compL (tg : Tg) (ok : Sl → Hs → Prop) (elt : Sl → Hs → (D → Hs → Prop) → Prop) (tst : Sl → Hs → (Bool → Hs → Prop) → Prop) (σ : Sl) : List D → List D → Hs → (List D → Hs → Prop) → Prop
  | [], acc, S, K => ok σ S ∧ K acc S
  | x :: xs, acc, S, K => ok σ S ∧ bindT tg x σ fun σ' => tst σ' S fun b S1 => Br b
      (elt σ' S1 fun y S2 => acc.length < sizeLine ∧ compL tg ok elt tst σ xs (acc ++ [y]) S2 K) (compL tg ok elt tst σ xs acc S1 K)
noncomputable def zipD : List D → List D → List D
  | a :: as, b :: bs => .tup [a, b] :: zipD as bs
  | _, _ => []
noncomputable def enumD : Nat → List D → List D
  | _, [] => []
  | n, a :: as => .tup [.int n, a] :: enumD (n + 1) as
noncomputable def rngD (lo : Int) : Nat → List D
  | 0 => []
  | n + 1 => .int lo :: rngD (lo + 1) n
noncomputable def rngC (lo c : Int) (n : Nat) : List D := (List.range n).map fun (i : Nat) => .int (lo + (i : Int) * c)
noncomputable def cutI (xs : List α) (lo hi : Option Int) : List α := (xs.drop (HT.sIx xs.length 0 lo)).take (HT.sIx xs.length xs.length hi - HT.sIx xs.length 0 lo)
noncomputable def slcC : Cn → Option Int → Option Int → Hs → VK2 → Prop
  | .l ds, lo, hi, S, Q => Q (.vl (cutI ds lo hi)) S
  | .f ds, lo, hi, S, Q => Q (.vl (cutI ds lo hi)) S
  | .t ds, lo, hi, S, Q => Q (.d (.tup (cutI ds lo hi))) S
  | .s cs, lo, hi, S, Q => cs.length ≤ sizeLine ∧ Q (.d (.str (cutI cs lo hi))) S
  | _, _, _, _, _ => False
noncomputable def optI : R → Vx → Option (Option Int)
  | .n, _ => some none
  | _, .d (.int i) => some (some i)
  | _, _ => none
noncomputable def srcX : Bool → Vx → Hs → (It2 → Hs → Prop) → Prop
  | _, .d (.tup ds), S, K => K ⟨ds, fun _ _ => True, true⟩ S
  | _, .d (.xt ds), S, K => K ⟨ds, fun _ _ => True, true⟩ S
  | _, .d (.ref a), S, K => ∃ ds, S a = some (.lst ds) ∧ K ⟨ds, fun _ S' => S' a = some (.lst ds), false⟩ S
  | _, .vl ds, S, K => K ⟨ds, fun _ _ => True, false⟩ S
  | true, .bw ds, S, K => K ⟨ds, fun _ _ => True, false⟩ S
  | _, .fz ds, S, K => K ⟨ds, fun _ _ => True, false⟩ S
  | _, _, _, _ => False
noncomputable def prsOf : List Vx → Option (List (D × D))
  | [] => some []
  | .d k :: .d v :: r => match keyD k, prsOf r with
    | true, some kvs => some ((k, v) :: kvs)
    | _, _ => none
  | _ => none
noncomputable def dicOf : Cn → Option (List (D × D))
  | .k kvs => some kvs
  | .kf kvs => some kvs
  | _ => none
noncomputable def isK (c : Cn) : Prop := ∃ kvs, dicOf c = some kvs
noncomputable def joinD (s : List Nat) (zs : List (List Nat)) : List Nat := (Txt.join ⟨s.toArray⟩ (zs.map fun z => ⟨z.toArray⟩)).cps.toList
noncomputable def splitD (s t : List Nat) : List (List Nat) := (Txt.split ⟨s.toArray⟩ ⟨t.toArray⟩).map fun z => z.cps.toList
noncomputable def upD (s : List Nat) : List Nat := (Txt.upper ⟨s.toArray⟩).cps.toList
noncomputable def isStrX : Vx → Prop
  | .d (.str _) => True
  | _ => False
noncomputable def bmTy : BM → Vx → Hs → Prop
  | .index, x, S => view x S fun c => ∃ ds, c = .l ds
  | .count, x, S => view x S fun c => ∃ ds, c = .l ds
  | .join, x, _ => isStrX x
  | .split, x, _ => isStrX x
  | .indexT, x, _ => ∃ ds, x = .d (.xt ds)
noncomputable def bmD : BM → Vx → Vx → Hs → VK2 → Prop
  | .index, x, y, S, Q => view x S fun c => ∃ ds yd j z, c = .l ds ∧ y = .d yd ∧ flatD yd = true ∧ ds.all flatD = true ∧ ds[j]? = some z ∧ eqB z yd = true ∧ (∀ (m : Nat) z', m < j → ds[m]? = some z' → eqB z' yd = false) ∧ Q (.d (.int (j : Nat))) S
  | .count, x, y, S, Q => view x S fun c => ∃ (ns : List Int) (k : Int), c = .l (ns.map D.int) ∧ y = .d (.int k) ∧ Q (.d (.int (ns.count k : Nat))) S
  | .indexT, x, y, S, Q => ∃ (ns : List Int) (k : Int), x = .d (.xt (ns.map D.int)) ∧ y = .d (.int k) ∧ k ∈ ns ∧ Q (.d (.int (ns.idxOf k : Nat))) S
  | .join, x, y, S, Q => view y S fun c => ∃ s zs, x = .d (.str s) ∧ c = .l (zs.map D.str) ∧ (zs.map List.length).sum + zs.length * s.length ≤ 16777216 ∧ Q (.d (.str (joinD s zs))) S
  | .split, x, y, S, Q => ∃ s t, x = .d (.str s) ∧ y = .d (.str t) ∧ t ≠ [] ∧ s.length + 2 ≤ sizeLine ∧ Q (.vl ((splitD s t).map D.str)) S
noncomputable def unD : List Vx → Option (List D)
  | [] => some []
  | .d x :: r => match unD r with
    | some ds => some (x :: ds)
    | none => none
  | _ :: _ => none
theorem unD_map : ∀ {xs : List Vx} {ds : List D}, unD xs = some ds → xs = ds.map Vx.d
  | [], _, e => by cases e; rfl
  | x :: r, ds, e => by
    cases x with
    | d y =>
      unfold unD at e
      split at e
      · rename_i es h; cases e; rw [unD_map h]; rfl
      · cases e
    | _ => cases e
noncomputable def noLoan : Vx → Bool
  | .d _ => true
  | .vl _ => true
  | .vd _ => true
  | _ => false
section
variable (T : Tbl) (cal : Nat → List Vx → Hs → VK2 → Prop)
mutual
noncomputable def wpE : R → Sl → Hs → LK2 → Prop
  | .v i, σ, S, Q => ∃ x, σ[i]? = some (some x) ∧ Q [bor x] S
  | .i n, _, S, Q => Q [.d (.int n)] S
  | .s x, _, S, Q => Q [.d (.str x)] S
  | .b x, _, S, Q => Q [.d (.bl x)] S
  | .n, _, S, Q => Q [.d .non] S
  | .g k, _, S, Q => Q [T.glob k] S
  | .o1 o a, σ, S, Q => wpE a σ S (one1 fun x S1 => op1D o x S1 fun z S2 => Q [z] S2)
  | .o2 o a b, σ, S, Q => wpE a σ S (one1 fun x S1 => wpE b σ S1 (one1 fun y S2 => op2D o x y S2 fun z S3 => Q [z] S3))
  | .nil, _, S, Q => Q [] S
  | .cons a r, σ, S, Q => wpE a σ S (one1 fun x S1 => wpE r σ S1 fun xs S2 => Q (bor x :: xs) S2)
  | .consb a r, σ, S, Q => wpE a σ S (one1 fun x S1 => bx x S1 fun d S2 => wpE r σ S2 fun xs S3 => Q (.d d :: xs) S3)
  | .tup as, σ, S, Q => wpE as σ S fun xs S1 => ∃ ds, unD xs = some ds ∧ ds.length ≤ sizeLine ∧ Q [.d (.tup ds)] S1
  | .lst as, σ, S, Q => wpE as σ S fun xs S1 => ∃ ds, unD xs = some ds ∧ ds.length ≤ sizeLine ∧ Q [.vl ds] S1
  | .dct, _, S, Q => Q [.vd []] S
  | .pr k v r, σ, S, Q => wpE k σ S (one1 fun x S1 => wpE v σ S1 (one1 fun y S2 => bx y S2 fun d S3 => wpE r σ S3 fun xs S4 => Q (x :: .d d :: xs) S4))
  | .dctp ps, σ, S, Q => wpE ps σ S fun xs S1 => ∃ kvs, prsOf xs = some kvs ∧ kvs.length ≤ 15 ∧ Q [.vd (mrgD [] kvs)] S1
  | .dpop o k, σ, S, Q => wpE o σ S (one1 fun x S1 => ∃ a kvs0, x = .d (.ref a) ∧ S1 a = some (.dic kvs0) ∧ wpE k σ S1 (one1 fun y S2 => ∃ kvs ky v, y = .d ky ∧ keyD ky = true ∧ S2 a = some (.dic kvs) ∧ dget kvs ky = some v ∧ Q [.d v] (su S2 a (.dic (ddrop kvs ky)))))
  | .get1 o k, σ, S, Q => wpE o σ S (one1 fun x S1 => view x S1 isK ∧ wpE k σ S1 (one1 fun y S2 => view x S2 fun c => ∃ kvs ky, dicOf c = some kvs ∧ y = .d ky ∧ keyD ky = true ∧ Q [.d ((dget kvs ky).getD .non)] S2))
  | .get2 o k d, σ, S, Q => wpE o σ S (one1 fun x S1 => view x S1 isK ∧ wpE k σ S1 (one1 fun y S2 => wpE d σ S2 (one1 fun z S3 => view x S3 fun c => ∃ kvs ky dz, dicOf c = some kvs ∧ y = .d ky ∧ z = .d dz ∧ keyD ky = true ∧ Q [.d ((dget kvs ky).getD dz)] S3)))
  | .get2N o k d, σ, S, Q => wpE o σ S (one1 fun x S1 => ∃ a kvs0, x = .d (.ref a) ∧ S1 a = some (.dn kvs0) ∧ wpE k σ S1 (one1 fun y S2 => wpE d σ S2 (one1 fun z S3 => ∃ kvs ky dz, y = .d ky ∧ z = .d dz ∧ keyN ky = true ∧ S3 a = some (.dn kvs) ∧ Q [.d ((dget kvs ky).getD dz)] S3)))
  | .and a r, σ, S, Q => wpE a σ S (one1 (tstK fun b S1 => Br b (wpE r σ S1 Q) (Q [.d (.bl false)] S1)))
  | .or a r, σ, S, Q => wpE a σ S (one1 (tstK fun b S1 => Br b (Q [.d (.bl true)] S1) (wpE r σ S1 Q)))
  | .one a, σ, S, Q => wpE a σ S (one1 (tstK fun b S1 => Q [.d (.bl b)] S1))
  | .not a, σ, S, Q => wpE a σ S (one1 (tstK fun b S1 => Q [.d (.bl (!b))] S1))
  | .ife c a b, σ, S, Q => wpE c σ S (one1 (tstK fun k S1 => Br k (wpE a σ S1 (one1 fun x S2 => Q [x] S2)) (wpE b σ S1 (one1 fun x S2 => Q [x] S2))))
  | .chain o o' a b c, σ, S, Q => wpE a σ S (one1 fun x S1 => wpE b σ S1 (one1 fun y S2 => op2D o x y S2 (tstK fun k S3 => Br k
      (wpE c σ S3 (one1 fun z S4 => op2D o' y z S4 (tstK fun k' S5 => Q [.d (.bl k')] S5))) (Q [.d (.bl false)] S3))))
  | .slc a lo hi, σ, S, Q => wpE a σ S (one1 fun x S1 => wpE lo σ S1 (one1 fun l S2 => ∃ l', optI lo l = some l' ∧ wpE hi σ S2 (one1 fun u S3 => ∃ u', optI hi u = some u' ∧ view x S3 fun c => slcC c l' u' S3 fun z S4 => Q [z] S4)))
  | .call f as, σ, S, Q => wpE as σ S fun xs S1 => cal f xs S1 fun r S2 => Q [r] S2
  | .meth f o as, σ, S, Q => wpE o σ S (one1 fun x S1 => ∃ a fs, x = .d (.ref a) ∧ S1 a = some (.ins (T.fcls f) fs) ∧ wpE as σ S1 fun xs S2 => cal f (x :: xs) S2 fun r S3 => Q [r] S3)
  | .make c as, σ, S, Q => wpE as σ S fun xs S1 => ∀ a, S1 a = none → cal (T.cini c) (.d (.ref a) :: xs) (su S1 a (.ins c [])) fun r S2 => r = .d .non ∧ Q [.d (.ref a)] S2
  | .maken c as, σ, S, Q => wpE as σ S fun xs S1 => ∀ a, S1 a = none → cal (T.cini c) (.d (.ref a) :: (xs ++ [.d .non])) (su S1 a (.ins c [])) fun r S2 => r = .d .non ∧ Q [.d (.ref a)] S2
  | .fld o ci k, σ, S, Q => wpE o σ S (one1 fun x S1 => ∃ a fs, x = .d (.ref a) ∧ S1 a = some (.ins ci fs) ∧ ∃ y, fs[k]? = some y ∧ Q [.d y] S1)
  | .hm m o as, σ, S, Q => wpE o σ S (one1 fun x S1 => bx x S1 fun d S1 => ∃ a ds, d = .ref a ∧ S1 a = some (.lst ds) ∧ wpE as σ S1 fun xs S2 => ∃ ob, S2 a = some ob ∧ mutC m ob.cn xs S2 fun c r => ∃ o', c.o = some o' ∧ Q [.d r] (su S2 a o'))
  | .comp tg elt it tst, σ, S, Q => wpI it σ S fun J S1 => compL tg J.ok (fun σ' S' K => wpE elt σ' S' (one1 fun y S2 => bx y S2 K)) (fun σ' S' K => wpE tst σ' S' (one1 (tstK K))) σ J.items [] S1 fun ys S2 => Q [.vl ys] S2
  | .sIt e, σ, S, Q => wpE e σ S (one1 fun x S1 => view x S1 fun c => ∃ ps : List (Int × Int), c = .k (ps.map fun p => (.int p.1, .int p.2)) ∧ ps.length ≤ 1000 ∧ ∀ qs : List (Int × Int), qs.Perm ps → srtP qs → Q [.vl (qs.map pairD)] S1)
  | .rev e, σ, S, Q => wpE e σ S (one1 fun x S1 => view x S1 fun c => ∃ ds, (c = .l ds ∧ Q [.vl ds.reverse] S1) ∨ (c = .t ds ∧ Q [.d (.tup ds.reverse)] S1))
  | .lrg a, σ, S, Q => wpE a σ S (one1 fun x S1 => ∃ n, x = .d (.int n) ∧ n ≤ 1000000 ∧ -(2 ^ 62) < n ∧ Q [.vl (rngD 0 n.toNat)] S1)
  | .bm1 m o a, σ, S, Q => wpE o σ S (one1 fun x S1 => bmTy m x S1 ∧ wpE a σ S1 (one1 fun y S2 => bmD m x y S2 fun z S3 => Q [z] S3))
  | .upper o, σ, S, Q => wpE o σ S (one1 fun x S1 => ∃ s, x = .d (.str s) ∧ s.length ≤ 5000000 ∧ Q [.d (.str (upD s))] S1)
  | .setop k a, σ, S, Q => wpE a σ S (one1 fun x S1 => view x S1 fun c => ∃ ns : List Int, c = .t (ns.map D.int) ∧ ns.length < 64 ∧ ∀ ms : List Int, ms.Nodup → (k = true → ms.Pairwise (· < ·)) → (∀ j, j ∈ ms ↔ j ∈ ns) → Q [if k = true then .vl (ms.map D.int) else .d (.int (ms.length : Nat))] S1)
  | .slen a, σ, S, Q => wpE a σ S (one1 fun x S1 => view x S1 fun c => ∃ ns : List Int, c = .l (ns.map D.int) ∧ ns.length ≤ 4000 ∧ ∀ ms : List Int, ms.Nodup → (∀ j, j ∈ ms ↔ j ∈ ns) → Q [.d (.int (ms.length : Nat))] S1)
  | .dctn, _, S, Q => ∀ a, S a = none → Q [.d (.ref a)] (su S a (.dn []))
  | .dctn1 k v, σ, S, Q => wpE k σ S (one1 fun x S1 => wpE v σ S1 (one1 fun y S2 => bx y S2 fun d S3 => ∃ kd, x = .d kd ∧ keyN kd = true ∧ ∀ a, S3 a = none → Q [.d (.ref a)] (su S3 a (.dn [(kd, d)]))))
  | .lockV e, σ, S, Q => wpE e σ S (one1 fun x S1 => ∃ a kvs, x = .d (.ref a) ∧ S1 a = some (.dn kvs) ∧ ∀ h ns, Q [.d (.ref a)] (su S1 a (.fdn kvs h ns)))
  | .kmem neg k a, σ, S, Q => wpE a σ S (one1 fun x S1 => ∃ s, x = .d (.str s) ∧ Q [.d (.bl (bif neg then !((T.kd k).lookup s).isSome else ((T.kd k).lookup s).isSome))] S1)
  | .kidx k a, σ, S, Q => wpE a σ S (one1 fun x S1 => ∃ s v, x = .d (.str s) ∧ (T.kd k).lookup s = some v ∧ Q [.d v] S1)
  | .lend i e, σ, S, Q => ∃ a ds, σ[i]? = some (some (.d (.ref a))) ∧ S a = some (.lst ds) ∧ wpE e (σ.set i (some (.bw ds))) (mn a S) fun xs S' => xs.all noLoan = true ∧ xs.length = 1 ∧ (S' a = none → Q xs (su S' a (.lst ds)))
  | .lockEN e, σ, S, Q => ∃ a kvs, S a = some (.dn kvs) ∧ ∀ h ns, wpE e σ (su S a (.fdn kvs h ns)) fun xs S' => S' a = some (.fdn kvs h ns) ∧ Q xs (su S' a (.dn kvs))
  | .stp a k, σ, S, Q => wpE a σ S (one1 fun x S1 => wpE k σ S1 (one1 fun y S2 => ∃ z, y = .d (.int z) ∧ (z = 1 ∨ z = -1) ∧ view x S2 fun c => ∃ ds, c = .l ds ∧ Q [.vl (if z = 1 then ds else ds.reverse)] S2))
  | .lockE e, σ, S, Q => ∃ a kvs, S a = some (.dic kvs) ∧ ∀ h, wpE e σ (su S a (.fdc kvs h)) fun xs S' => S' a = some (.fdc kvs h) ∧ Q xs (su S' a (.dic kvs))
  | _, _, _, _ => False
noncomputable def wpI : R → Sl → Hs → (It2 → Hs → Prop) → Prop
  | .itv i, σ, S, K => ∃ x, σ[i]? = some (some x) ∧ srcX true x S K
  | .ite e, σ, S, K => wpE e σ S (one1 fun x S1 => srcX false x S1 K)
  | .ichs e, σ, S, K => wpE e σ S (one1 fun x S1 => ∃ s : List Nat, x = .d (.str s) ∧ K ⟨s.map fun c => .str [c], fun _ _ => True, false⟩ S1)
  | .rng a, σ, S, K => wpE a σ S (one1 fun x S1 => ∃ n, x = .d (.int n) ∧ n < 2 ^ 62 ∧ -(2 ^ 62) < n ∧ K ⟨rngD 0 n.toNat, fun _ _ => True, false⟩ S1)
  | .rng2 a b, σ, S, K => wpE a σ S (one1 fun x S1 => wpE b σ S1 (one1 fun y S2 => ∃ m n, x = .d (.int m) ∧ y = .d (.int n) ∧ (m < 2 ^ 62 ∧ -(2 ^ 62) < m ∧ n < 2 ^ 62 ∧ -(2 ^ 62) < n) ∧ K ⟨rngD m (n - m).toNat, fun _ _ => True, false⟩ S2))
  | .rng3 a b s, σ, S, K => wpE a σ S (one1 fun x S1 => wpE b σ S1 (one1 fun y S2 => wpE s σ S2 (one1 fun z S3 => ∃ i j k n, x = .d (.int i) ∧ y = .d (.int j) ∧ z = .d (.int k) ∧ RgC i j k n ∧ K ⟨rngC i k n, fun _ _ => True, false⟩ S3)))
  | .enu a, σ, S, K => wpI a σ S fun J S1 => K ⟨enumD 0 J.items, J.ok, false⟩ S1
  | .zip a b, σ, S, K => wpI a σ S fun J S1 => wpI b σ S1 fun J' S2 => J.tu = J'.tu ∧ J.ok σ S2 ∧ K ⟨zipD J.items J'.items, fun σ' S' => J.ok σ' S' ∧ J'.ok σ' S', false⟩ S2
  | .itk e, σ, S, K => wpE e σ S (one1 fun x S1 => ∃ a kvs h, x = .d (.ref a) ∧ S1 a = some (.fdc kvs h) ∧ K ⟨kvs.map Prod.fst, fun _ S' => S' a = some (.fdc kvs h), false⟩ S1)
  | .enuk e, σ, S, K => wpE e σ S (one1 fun x S1 => ∃ a kvs h, x = .d (.ref a) ∧ S1 a = some (.fdc kvs h) ∧ K ⟨enumD 0 (kvs.map Prod.fst), fun _ S' => S' a = some (.fdc kvs h), false⟩ S1)
  | .itkn e, σ, S, K => wpE e σ S (one1 fun x S1 => ∃ a kvs h ns, x = .d (.ref a) ∧ S1 a = some (.fdn kvs h ns) ∧ K ⟨kvs.map Prod.fst, fun _ S' => S' a = some (.fdn kvs h ns), false⟩ S1)
  | .itms e, σ, S, K => wpE e σ S (one1 fun x S1 => ∃ a kvs h, x = .d (.ref a) ∧ S1 a = some (.fdc kvs h) ∧ K ⟨kvs.map fun kv => .tup [kv.1, kv.2], fun _ S' => S' a = some (.fdc kvs h), false⟩ S1)
  | _, _, _, _ => False
end
end
noncomputable abbrev SK2 := Sl → Hs → Prop
noncomputable def stor (x : Vx) (P : Prop) : Prop := match x with
  | .bw _ => False
  | .bd _ => False
  | .fz _ => False
  | _ => P
noncomputable def setF (fs : List D) (k : Nat) (x : D) : List D := if k = fs.length then fs ++ [x] else fs.set k x
noncomputable def ownC : Vx → (Cn → Prop) → Prop
  | .vl ds, K => K (.l ds)
  | .vd kvs, K => K (.k kvs)
  | _, _ => False
noncomputable def dstS : Option Nat → D → Sl → Sl
  | none, _, σ => σ
  | some j, x, σ => σ.set j (some (.d x))
noncomputable def forL (tg : Tg) (ok : SK2) (body : SK2 → SK2) (nx : SK2) : List D → SK2
  | [], σ, S => ok σ S ∧ nx σ S
  | x :: xs, σ, S => ok σ S ∧ bindT tg x σ fun σ' => body (forL tg ok body nx xs) σ' S
noncomputable def whlN (tst : Sl → Hs → (Bool → Hs → Prop) → Prop) (body : SK2 → SK2) (nx : SK2) : Nat → SK2
  | 0, _, _ => False
  | n + 1, σ, S => tst σ S fun b S1 => Br b (body (whlN tst body nx n) σ S1) (nx σ S1)
noncomputable def lendX : Vx → Vx
  | .vl ds => .bw ds
  | x => x
noncomputable def dem : R → Sl → Sl
  | .itv i, σ => match σ[i]? with
    | some (some x) => σ.set i (some (lendX x))
    | _ => σ
  | .enu a, σ => dem a σ
  | .zip a b, σ => dem b (dem a σ)
  | _, σ => σ
section
variable (T : Tbl) (cal : Nat → List Vx → Hs → VK2 → Prop)
noncomputable def wpS : R → Sl → Hs → (nx : SK2) → (rt : VK2) → (bk ct : SK2) → Prop
  | .seq a r, σ, S, nx, rt, bk, ct => wpS a σ S (fun σ' S' => wpS r σ' S' nx rt bk ct) rt bk ct
  | .skip, σ, S, nx, rt, bk, ct => nx σ S
  | .expr e, σ, S, nx, rt, bk, ct => wpE T cal e σ S (one1 fun _ S1 => nx σ S1)
  | .set i e, σ, S, nx, rt, bk, ct => wpE T cal e σ S (one1 fun x S1 => stor x (nx (σ.set i (some x)) S1))
  | .setT is e, σ, S, nx, rt, bk, ct => wpE T cal e σ S (one1 fun x S1 => view x S1 fun c => ∃ ds, seqOf c = some ds ∧ ∃ σ', bindN is ds σ = some σ' ∧ nx σ' S1)
  | .setNAN i o ci k j e, σ, S, nx, rt, bk, ct => wpE T cal e σ S (one1 fun x S1 => view x S1 fun c => ∃ d0 d1 d2, seqOf c = some [d0, d1, d2] ∧ wpE T cal o (σ.set i (some (.d d0))) S1 (one1 fun y S2 =>
      ∃ a fs, y = .d (.ref a) ∧ S2 a = some (.ins ci fs) ∧ k ≤ fs.length ∧ nx ((σ.set i (some (.d d0))).set j (some (.d d2))) (su S2 a (.ins ci (setF fs k d1)))))
  | .seti o k e, σ, S, nx, rt, bk, ct => wpE T cal e σ S (one1 fun y S1 => bx y S1 fun v S2 => wpE T cal o σ S2 (one1 fun x S3 => wpE T cal k σ S3 (one1 fun z S4 =>
      ∃ a ob kd, x = .d (.ref a) ∧ S4 a = some ob ∧ z = .d kd ∧ mutC .setI ob.cn [.d kd, .d v] S4 fun c _ => ∃ o', c.o = some o' ∧ nx σ (su S4 a o'))))
  | .slcset o e, σ, S, nx, rt, bk, ct => wpE T cal e σ S (one1 fun y S1 => ∃ b, y = .d (.ref b) ∧ wpE T cal o σ S1 (one1 fun x S2 => ∃ a xs ys, x = .d (.ref a) ∧ S2 a = some (.lst xs) ∧ S2 b = some (.lst ys) ∧ a ≠ b ∧ xs.length + ys.length ≤ sizeLine ∧ nx σ (su S2 a (.lst ys))))
  | .oseti i k e, σ, S, nx, rt, bk, ct => wpE T cal e σ S (one1 fun y S1 => bx y S1 fun v S2 => ∃ x, σ[i]? = some (some x) ∧ wpE T cal k σ S2 (one1 fun z S3 =>
      ∃ kd, z = .d kd ∧ ownC x fun c => mutC .setI c [.d kd, .d v] S3 fun c' _ => nx (σ.set i (some c'.v)) S3))
  | .fset o ci k e, σ, S, nx, rt, bk, ct => wpE T cal e σ S (one1 fun y S1 => bx y S1 fun v S2 => wpE T cal o σ S2 (one1 fun x S3 =>
      ∃ a fs, x = .d (.ref a) ∧ S3 a = some (.ins ci fs) ∧ k ≤ fs.length ∧ nx σ (su S3 a (.ins ci (setF fs k v)))))
  | .faug o ci k e, σ, S, nx, rt, bk, ct => wpE T cal o σ S (one1 fun x S1 => ∃ a fs i, x = .d (.ref a) ∧ S1 a = some (.ins ci fs) ∧ fs[k]? = some (.int i) ∧ wpE T cal e σ S1 (one1 fun y S2 =>
      ∃ j fs', y = .d (.int j) ∧ S2 a = some (.ins ci fs') ∧ k < fs'.length ∧ nx σ (su S2 a (.ins ci (setF fs' k (.int (i + j)))))))
  | .iff c a r, σ, S, nx, rt, bk, ct => wpE T cal c σ S (one1 (tstK fun b S1 => Br b (wpS a σ S1 nx rt bk ct) (wpS r σ S1 nx rt bk ct)))
  | .whl c a, σ, S, nx, rt, bk, ct => ∃ n, whlN (fun σ' S' K => wpE T cal c σ' S' (one1 (tstK K))) (fun k σ' S' => wpS a σ' S' k rt nx k) nx n σ S
  | .for tg it a, σ, S, nx, rt, bk, ct => wpI T cal it σ S fun J S1 => forL tg J.ok (fun k σ' S' => wpS a σ' S' k rt nx k) nx J.items (dem it σ) S1
  | .ret e, σ, S, nx, rt, bk, ct => wpE T cal e σ S (one1 fun x S1 => stor x (rt x S1))
  | .retn, σ, S, nx, rt, bk, ct => rt (.d .non) S
  | .retv i, σ, S, nx, rt, bk, ct => ∃ x, σ[i]? = some (some x) ∧ stor x (rt x S)
  | .brk, σ, S, nx, rt, bk, ct => bk σ S
  | .cnt, σ, S, nx, rt, bk, ct => ct σ S
  | .box i, σ, S, nx, rt, bk, ct => ∃ x, σ[i]? = some (some x) ∧ bx x S fun d S1 => nx (σ.set i (some (.d d))) S1
  | .om m i as dst, σ, S, nx, rt, bk, ct => ∃ ds, σ[i]? = some (some (.vl ds)) ∧ wpE T cal as σ S fun xs S1 => mutC m (.l ds) xs S1 fun c' r => nx (dstS dst r (σ.set i (some c'.v))) S1
  | .tryp st, σ, S, nx, rt, bk, ct => wpS st σ S nx rt bk ct
  | .lockN st, σ, S, nx, rt, bk, ct => ∃ a kvs, S a = some (.dn kvs) ∧ ∀ h ns, wpS st σ (su S a (.fdn kvs h ns)) (fun σ' S' => S' a = some (.fdn kvs h ns) ∧ nx σ' (su S' a (.dn kvs))) (fun x S' => S' a = some (.fdn kvs h ns) ∧ rt x (su S' a (.dn kvs)))
      (fun σ' S' => S' a = some (.fdn kvs h ns) ∧ bk σ' (su S' a (.dn kvs))) (fun σ' S' => S' a = some (.fdn kvs h ns) ∧ ct σ' (su S' a (.dn kvs)))
  | .lock st, σ, S, nx, rt, bk, ct => ∃ a kvs, S a = some (.dic kvs) ∧ ∀ h, wpS st σ (su S a (.fdc kvs h)) (fun σ' S' => S' a = some (.fdc kvs h) ∧ nx σ' (su S' a (.dic kvs))) (fun x S' => S' a = some (.fdc kvs h) ∧ rt x (su S' a (.dic kvs)))
      (fun σ' S' => S' a = some (.fdc kvs h) ∧ bk σ' (su S' a (.dic kvs))) (fun σ' S' => S' a = some (.fdc kvs h) ∧ ct σ' (su S' a (.dic kvs)))
  | _, _, _, _, _, _, _ => False
end
noncomputable def own : Vx → Bool
  | .vl _ => true
  | .vd _ => true
  | _ => false
noncomputable def startS (nl : Nat) (xs : List Vx) : Sl := xs.map some ++ List.replicate (nl - xs.length) none
noncomputable def cal (T : Tbl) : Nat → Nat → List Vx → Hs → VK2 → Prop
  | 0, _, _, _, _ => False
  | n + 1, f, xs, S, Q => ∃ F, T.fn f = some F ∧ xs.length = F.np ∧ (xs.all fun x => !(own x)) = true ∧ wpS T (cal T n) F.body (startS F.nl xs) S (fun _ S' => Q (.d .non) S') Q (fun _ _ => False) (fun _ _ => False)
section
variable {S : Hs} {K K' : Cn → Prop} {Q Q' : VK2}
theorem view_mono {x : Vx} (h : ∀ c, K c → K' c) (w : view x S K) : view x S K' := by
  cases x with
  | d y =>
    cases y with
    | ref a => obtain ⟨o, e, q⟩ := w; exact ⟨o, e, h _ q⟩
    | str s => exact h _ w
    | tup ds => exact h _ w
    | xt ds => exact h _ w
    | non => exact w
    | bl b => exact w
    | int i => exact w
  | vl _ => exact h _ w
  | bw _ => exact h _ w
  | fz _ => exact h _ w
  | vd _ => exact h _ w
  | bd _ => exact h _ w
  | st _ => exact h _ w
theorem bx_mono {x : Vx} {K K' : D → Hs → Prop} (h : ∀ d S, K d S → K' d S) (w : bx x S K) : bx x S K' := by
  cases x with
  | d y => exact h _ _ w
  | vl ds => exact fun a ha => h _ _ (w a ha)
  | vd ds => exact fun a ha => h _ _ (w a ha)
  | bw _ => exact w
  | fz _ => exact w
  | bd _ => exact w
  | st _ => exact w
theorem addC_mono {a b : Cn} (h : ∀ x S, Q x S → Q' x S) (w : addC a b S Q) : addC a b S Q' := by
  cases a <;> cases b <;> first | exact ⟨w.1, h _ _ w.2⟩ | exact w
theorem addD_mono {x y : Vx} (h : ∀ x S, Q x S → Q' x S) (w : addD x y S Q) : addD x y S Q' := by
  unfold addD at w ⊢
  split at w
  · exact h _ _ w
  · exact ⟨w.1, h _ _ w.2⟩
  · exact ⟨w.1, h _ _ w.2⟩
  · exact view_mono (fun c => view_mono fun c' => addC_mono h) w
theorem mulC_mono {a : Cn} {k : Int} (h : ∀ x S, Q x S → Q' x S) (w : mulC a k S Q) : mulC a k S Q' := by
  cases a <;> first | exact ⟨w.1, w.2.1, h _ _ w.2.2⟩ | exact w
theorem mulD_mono {x y : Vx} (h : ∀ x S, Q x S → Q' x S) (w : mulD x y S Q) : mulD x y S Q' := by
  unfold mulD at w ⊢
  split at w
  · exact ⟨w.1, h _ _ w.2⟩
  · exact ⟨w.1, h _ _ w.2⟩
  · exact ⟨w.1, view_mono (fun c => mulC_mono h) w.2⟩
  · exact w.elim
theorem intD_mono {f g : Int → Int → VK2 → Hs → Prop} {x y : Vx} (h : ∀ i j, f i j Q S → g i j Q' S) (w : intD f x y S Q) : intD g x y S Q' := by
  unfold intD at w ⊢
  split at w
  · exact h _ _ w
  · exact w.elim
theorem idxC_mono {c : Cn} {k : D} (h : ∀ x S, Q x S → Q' x S) (w : idxC c k S Q) : idxC c k S Q' := by
  unfold idxC at w ⊢
  split at w
  · obtain ⟨y, e, q⟩ := w; exact ⟨y, e, h _ _ q⟩
  · obtain ⟨y, e, q⟩ := w; exact ⟨y, e, h _ _ q⟩
  · obtain ⟨y, e, q⟩ := w; exact ⟨y, e, h _ _ q⟩
  · obtain ⟨z, y, e, q⟩ := w; exact ⟨z, y, e, h _ _ q⟩
  · obtain ⟨z, y, e, q⟩ := w; exact ⟨z, y, e, h _ _ q⟩
  · obtain ⟨z, y, e, q⟩ := w; exact ⟨z, y, e, h _ _ q⟩
  · obtain ⟨z, y, e, q⟩ := w; exact ⟨z, y, e, h _ _ q⟩
  · obtain ⟨z, y, e, q⟩ := w; exact ⟨z, y, e, h _ _ q⟩
  · exact w.elim
theorem idxD_mono {x y : Vx} (h : ∀ x S, Q x S → Q' x S) (w : idxD x y S Q) : idxD x y S Q' := by
  cases y with
  | d k => exact view_mono (fun c => idxC_mono h) w
  | _ => exact w
theorem eqC_mono {a b : Cn} {K K' : Bool → Prop} (h : ∀ b, K b → K' b) (w : eqC a b K) : eqC a b K' := by
  cases a <;> cases b <;> first | exact ⟨w.1, h _ w.2⟩ | exact w
theorem eqD_mono {x y : Vx} {K K' : Bool → Prop} (h : ∀ b, K b → K' b) (w : eqD x y S K) : eqD x y S K' := by
  unfold eqD at w ⊢
  split at w
  · exact view_mono (fun c => view_mono fun c' => eqC_mono h) w
  · exact w.elim
  · exact ⟨w.1, w.2.1, h _ w.2.2⟩
  · exact view_mono (fun c => view_mono fun c' => eqC_mono h) w
theorem eqH_mono {x y : Vx} {K K' : Bool → Prop} (h : ∀ b, K b → K' b) (w : eqH x y S K) : eqH x y S K' := let ⟨p, q, h1, h2, h3, h4, k⟩ := w; ⟨p, q, h1, h2, h3, h4, h _ k⟩
theorem memC_mono {c : Cn} {x : D} {K K' : Bool → Prop} (h : ∀ b, K b → K' b) (w : memC c x K) : memC c x K' := by
  unfold memC at w ⊢
  split at w
  · exact ⟨w.1, w.2.1, h _ w.2.2⟩
  · exact ⟨w.1, w.2.1, h _ w.2.2⟩
  · exact ⟨w.1, h _ w.2⟩
  · exact ⟨w.1, h _ w.2⟩
  · exact ⟨w.1, h _ w.2⟩
  · exact ⟨w.1, h _ w.2⟩
  · exact h _ w
  · exact w.elim
theorem memD_mono {x y : Vx} {K K' : Bool → Prop} (h : ∀ b, K b → K' b) (w : memD x y S K) : memD x y S K' := by
  cases x with
  | d k => exact view_mono (fun c => memC_mono h) w
  | _ => exact w
theorem memR_mono {x y : Vx} {K K' : Bool → Prop} (h : ∀ b, K b → K' b) (w : memR x y S K) : memR x y S K' := let ⟨p, q, ps, h1, h2, h3, h4, h5, k⟩ := w; ⟨p, q, ps, h1, h2, h3, h4, h5, h _ k⟩
theorem memH_mono {x y : Vx} {K K' : Bool → Prop} (h : ∀ b, K b → K' b) (w : memH x y S K) : memH x y S K' := by
  cases x with
  | d k => exact view_mono (fun c w => by cases c <;> first | exact ⟨w.1, w.2.1, h _ w.2.2⟩ | exact w) w
  | _ => exact w
theorem op2D_mono {o : O2} {x y : Vx} (h : ∀ x S, Q x S → Q' x S) (w : op2D o x y S Q) : op2D o x y S Q' := by
  cases o with
  | add => exact addD_mono h w
  | mul => exact mulD_mono h w
  | idx => exact idxD_mono h w
  | eq => exact eqD_mono (fun b => h _ _) w
  | ne => exact eqD_mono (fun b => h _ _) w
  | eqh => exact eqH_mono (K := fun b => Q (.d (.bl b)) S) (K' := fun b => Q' (.d (.bl b)) S) (fun b => h _ _) w
  | neh => exact eqH_mono (K := fun b => Q (.d (.bl (!b))) S) (K' := fun b => Q' (.d (.bl (!b))) S) (fun b => h _ _) w
  | is => obtain ⟨b, e, q⟩ := w; exact ⟨b, e, h _ _ q⟩
  | isnt => obtain ⟨b, e, q⟩ := w; exact ⟨b, e, h _ _ q⟩
  | mem => exact memD_mono (fun b => h _ _) w
  | nmem => exact memD_mono (fun b => h _ _) w
  | memr => exact memR_mono (K := fun b => Q (.d (.bl b)) S) (K' := fun b => Q' (.d (.bl b)) S) (fun b => h _ _) w
  | nmemr => exact memR_mono (K := fun b => Q (.d (.bl (!b))) S) (K' := fun b => Q' (.d (.bl (!b))) S) (fun b => h _ _) w
  | memh => exact memH_mono (K := fun b => Q (.d (.bl b)) S) (K' := fun b => Q' (.d (.bl b)) S) (fun b => h _ _) w
  | nmemh => exact memH_mono (K := fun b => Q (.d (.bl (!b))) S) (K' := fun b => Q' (.d (.bl (!b))) S) (fun b => h _ _) w
  | fdiv => exact intD_mono (fun i j q => ⟨q.1, h _ _ q.2⟩) w
  | mod => exact intD_mono (fun i j q => ⟨q.1, h _ _ q.2⟩) w
  | pow => exact intD_mono (fun i j q => ⟨q.1, h _ _ q.2⟩) w
  | _ => exact intD_mono (fun i j q => h _ _ q) w
theorem op1D_mono {o : O1} {x : Vx} (h : ∀ x S, Q x S → Q' x S) (w : op1D o x S Q) : op1D o x S Q' := by
  cases o with
  | neg => revert w; show negD _ _ _ → negD _ _ _; unfold negD; split <;> first | exact h _ _ | exact id
  | len => exact view_mono (fun c ⟨n, e, q⟩ => ⟨n, e, h _ _ q⟩) w
  | int => revert w; show toIntD _ _ _ → toIntD _ _ _; unfold toIntD; split <;> first | exact h _ _ | exact fun ⟨n, e, z⟩ => ⟨n, e, h _ _ z⟩ | exact id
  | str => revert w; show strD _ _ _ → strD _ _ _; unfold strD; split <;> first | exact fun z => ⟨z.1, h _ _ z.2⟩ | exact fun z => ⟨z.1, fun t ht => h _ _ (z.2 t ht)⟩ | exact id
  | list => exact view_mono (fun c ⟨n, e, q⟩ => ⟨n, e, h _ _ q⟩) w
  | tuple => exact view_mono (fun c ⟨n, e, q⟩ => ⟨n, e, h _ _ q⟩) w
  | tupleX => exact view_mono (fun c ⟨n, e, q⟩ => ⟨n, e, h _ _ q⟩) w
  | sorted => exact view_mono (fun c ⟨n, e, q⟩ => ⟨n, e, fun z p p' => h _ _ (q z p p')⟩) w
  | dict => exact view_mono (fun c ⟨n, e, q⟩ => ⟨n, e, h _ _ q⟩) w
  | sortedP => exact view_mono (fun c ⟨n, e, q⟩ => ⟨n, e, fun z p p' => h _ _ (q z p p')⟩) w
  | dictP => exact view_mono (fun c ⟨n, e, q⟩ => ⟨n, e, h _ _ q⟩) w
  | sortedN => exact view_mono (fun c ⟨n, e, e', q⟩ => ⟨n, e, e', fun z p p' => h _ _ (q z p p')⟩) w
  | sortedDn => exact view_mono (fun c ⟨m, n, e, e', e'', q⟩ => ⟨m, n, e, e', e'', fun z p p' => h _ _ (q z p p')⟩) w
  | listK => exact view_mono (fun c ⟨n, e, q⟩ => ⟨n, e, h _ _ q⟩) w
  | listDn => exact view_mono (fun c ⟨n, e, q⟩ => ⟨n, e, h _ _ q⟩) w
  | lenDn => exact view_mono (fun c ⟨n, e, q⟩ => ⟨n, e, h _ _ q⟩) w
  | sum => exact view_mono (fun c ⟨n, e, q⟩ => ⟨n, e, h _ _ q⟩) w
  | maxl => exact view_mono (fun c ⟨n, e, z, q⟩ => ⟨n, e, z, fun m p p' => h _ _ (q m p p')⟩) w
  | minl => exact view_mono (fun c ⟨n, e, z, q⟩ => ⟨n, e, z, fun m p p' => h _ _ (q m p p')⟩) w
  | all => exact view_mono (fun c ⟨n, m, e, e', q⟩ => ⟨n, m, e, e', h _ _ q⟩) w
  | any => exact view_mono (fun c ⟨n, m, e, e', q⟩ => ⟨n, m, e, e', h _ _ q⟩) w
  | isi t => revert w; show isiD _ _ _ _ → isiD _ _ _ _; unfold isiD; split <;> first | exact fun ⟨b, e, q⟩ => ⟨b, e, h _ _ q⟩ | exact h _ _ | exact id
theorem mutC_mono {m : M} {c : Cn} {xs : List Vx} {K K' : Cn → D → Prop} (h : ∀ c r, K c r → K' c r) (w : mutC m c xs S K) : mutC m c xs S K' := by
  unfold mutC at w ⊢
  split at w
  · exact ⟨w.1, h _ _ w.2⟩
  · obtain ⟨y, e, q⟩ := w; exact ⟨y, e, h _ _ q⟩
  · obtain ⟨y, e, q⟩ := w; exact ⟨y, e, h _ _ q⟩
  · exact ⟨w.1, h _ _ w.2⟩
  · exact ⟨w.1, h _ _ w.2⟩
  · exact ⟨w.1, w.2.1, h _ _ w.2.2⟩
  · exact ⟨w.1, w.2.1, h _ _ w.2.2⟩
  · exact ⟨w.1, w.2.1, h _ _ w.2.2⟩
  · exact view_mono (fun c ⟨n, e, z, q⟩ => ⟨n, e, z, h _ _ q⟩) w
  · exact h _ _ w
  · obtain ⟨ns, j, e1, e2, e3, q⟩ := w; exact ⟨ns, j, e1, e2, e3, h _ _ q⟩
  · exact w.elim
theorem slcC_mono {c : Cn} {a b : Option Int} (h : ∀ x S, Q x S → Q' x S) (w : slcC c a b S Q) : slcC c a b S Q' := by
  cases c <;> first | exact h _ _ w | exact ⟨w.1, h _ _ w.2⟩ | exact w
theorem bmD_mono {m : BM} {x y : Vx} {Q Q' : VK2} (h : ∀ x S, Q x S → Q' x S) (w : bmD m x y S Q) : bmD m x y S Q' := by
  cases m with
  | index => exact view_mono (fun c ⟨ds, yd, j, z, e1, e2, e3, e4, e5, e6, e7, q⟩ => ⟨ds, yd, j, z, e1, e2, e3, e4, e5, e6, e7, h _ _ q⟩) w
  | count => exact view_mono (fun c ⟨ns, k, e1, e2, q⟩ => ⟨ns, k, e1, e2, h _ _ q⟩) w
  | join => exact view_mono (fun c ⟨s, zs, e1, e2, e3, q⟩ => ⟨s, zs, e1, e2, e3, h _ _ q⟩) w
  | split => obtain ⟨s, t, e1, e2, e3, e4, q⟩ := w; exact ⟨s, t, e1, e2, e3, e4, h _ _ q⟩
  | indexT => obtain ⟨ns, k, e1, e2, e3, q⟩ := w; exact ⟨ns, k, e1, e2, e3, h _ _ q⟩
theorem one1_mono {xs : List Vx} (h : ∀ x S, Q x S → Q' x S) (w : one1 Q xs S) : one1 Q' xs S := by
  unfold one1 at w ⊢
  split at w
  · exact h _ _ w
  · exact w.elim
theorem tstK_mono {x : Vx} {K K' : Bool → Hs → Prop} (h : ∀ b S, K b S → K' b S) (w : tstK K x S) : tstK K' x S := by
  unfold tstK at w ⊢
  split at w
  · exact h _ _ w
  · exact w.elim
theorem Br.mono {b : Bool} {A A' B B' : Prop} (h : A → A') (h' : B → B') (w : Br b A B) : Br b A' B' := ⟨fun e => h (w.t e), fun e => h' (w.f e)⟩
theorem bindT_mono {tg : Tg} {x : D} {σ : Sl} {K K' : Sl → Prop} (h : ∀ σ, K σ → K' σ) (w : bindT tg x σ K) : bindT tg x σ K' := by
  unfold bindT at w ⊢
  split at w
  · exact h _ w
  · obtain ⟨σ', e, q⟩ := w; exact ⟨σ', e, h _ q⟩
  · exact w.elim
theorem ownC_mono {x : Vx} (h : ∀ c, K c → K' c) (w : ownC x K) : ownC x K' := by
  cases x <;> first | exact h _ w | exact w
theorem stor_mono {x : Vx} {P P' : Prop} (h : P → P') (w : stor x P) : stor x P' := by
  cases x <;> first | exact h w | exact w
theorem compL_mono {tg : Tg} {ok : Sl → Hs → Prop} {e e' : Sl → Hs → (D → Hs → Prop) → Prop} {t t' : Sl → Hs → (Bool → Hs → Prop) → Prop} {σ : Sl} {K K' : List D → Hs → Prop}
    (he : ∀ σ S K K', (∀ d S, K d S → K' d S) → e σ S K → e' σ S K') (ht : ∀ σ S K K', (∀ d S, K d S → K' d S) → t σ S K → t' σ S K') (h : ∀ a S, K a S → K' a S) :
    ∀ (xs acc : List D) (S : Hs), compL tg ok e t σ xs acc S K → compL tg ok e' t' σ xs acc S K'
  | [], _, _, w => ⟨w.1, h _ _ w.2⟩
  | x :: xs, acc, S, w => ⟨w.1, bindT_mono (fun σ' q => ht _ _ _ _ (fun b S1 r => Br.mono (he _ _ _ _ fun y S2 z => ⟨z.1, compL_mono he ht h xs _ _ z.2⟩) (compL_mono he ht h xs _ _) r) q) w.2⟩
end
theorem srcX_mono {l : Bool} {x : Vx} {S : Hs} {K K' : It2 → Hs → Prop} (h : ∀ J S, K J S → K' J S) (w : srcX l x S K) : srcX l x S K' := by
  unfold srcX at w ⊢
  split at w
  · exact h _ _ w
  · exact h _ _ w
  · obtain ⟨ds, e, q⟩ := w; exact ⟨ds, e, h _ _ q⟩
  · exact h _ _ w
  · exact h _ _ w
  · exact h _ _ w
  · exact w.elim
noncomputable def CalMono (c : Nat → List Vx → Hs → VK2 → Prop) : Prop := ∀ f xs S (Q Q' : VK2), (∀ x S, Q x S → Q' x S) → c f xs S Q → c f xs S Q'
section
variable {T : Tbl} {c : Nat → List Vx → Hs → VK2 → Prop}
theorem wp_mono (hc : CalMono c) (r : R) : (∀ σ S (Q Q' : LK2), (∀ x S, Q x S → Q' x S) → wpE T c r σ S Q → wpE T c r σ S Q') ∧ (∀ σ S (K K' : It2 → Hs → Prop), (∀ x S, K x S → K' x S) → wpI T c r σ S K → wpI T c r σ S K') := by
  induction r with
  | v i => exact ⟨fun σ S Q Q' h ⟨x, e, q⟩ => ⟨x, e, h _ _ q⟩, fun σ S K K' h w => w⟩
  | i n => exact ⟨fun σ S Q Q' h w => h _ _ w, fun σ S K K' h w => w⟩
  | s n => exact ⟨fun σ S Q Q' h w => h _ _ w, fun σ S K K' h w => w⟩
  | b n => exact ⟨fun σ S Q Q' h w => h _ _ w, fun σ S K K' h w => w⟩
  | n => exact ⟨fun σ S Q Q' h w => h _ _ w, fun σ S K K' h w => w⟩
  | g k => exact ⟨fun σ S Q Q' h w => h _ _ w, fun σ S K K' h w => w⟩
  | nil => exact ⟨fun σ S Q Q' h w => h _ _ w, fun σ S K K' h w => w⟩
  | dct => exact ⟨fun σ S Q Q' h w => h _ _ w, fun σ S K K' h w => w⟩
  | o1 o a ih => exact ⟨fun σ S Q Q' h w => ih.1 _ _ _ _ (fun xs S1 => one1_mono fun x S => op1D_mono fun z S => h _ _) w, fun σ S K K' h w => w⟩
  | o2 o a b iha ihb => exact ⟨fun σ S Q Q' h w => iha.1 _ _ _ _ (fun xs S1 => one1_mono fun x S => ihb.1 _ _ _ _ (fun ys S2 => one1_mono fun y S => op2D_mono fun z S => h _ _)) w, fun σ S K K' h w => w⟩
  | cons a b iha ihb => exact ⟨fun σ S Q Q' h w => iha.1 _ _ _ _ (fun xs S1 => one1_mono fun x S => ihb.1 _ _ _ _ (fun ys S2 => h _ _)) w, fun σ S K K' h w => w⟩
  | consb a b iha ihb => exact ⟨fun σ S Q Q' h w => iha.1 _ _ _ _ (fun xs S1 => one1_mono fun x S => bx_mono fun d S => ihb.1 _ _ _ _ (fun ys S2 => h _ _)) w, fun σ S K K' h w => w⟩
  | tup as ih => exact ⟨fun σ S Q Q' h w => ih.1 _ _ _ _ (fun xs S1 ⟨ds, e, z, q⟩ => ⟨ds, e, z, h _ _ q⟩) w, fun σ S K K' h w => w⟩
  | lst as ih => exact ⟨fun σ S Q Q' h w => ih.1 _ _ _ _ (fun xs S1 ⟨ds, e, z, q⟩ => ⟨ds, e, z, h _ _ q⟩) w, fun σ S K K' h w => w⟩
  | pr k v r ihk ihv ihr => exact ⟨fun σ S Q Q' h w => ihk.1 _ _ _ _ (fun xs S1 => one1_mono fun x S => ihv.1 _ _ _ _ (fun ys S2 => one1_mono fun y S => bx_mono fun d S => ihr.1 _ _ _ _ (fun ys S2 => h _ _))) w, fun σ S K K' h w => w⟩
  | dctp as ih => exact ⟨fun σ S Q Q' h w => ih.1 _ _ _ _ (fun xs S1 ⟨ds, e, z, q⟩ => ⟨ds, e, z, h _ _ q⟩) w, fun σ S K K' h w => w⟩
  | dpop o k iho ihk => exact ⟨fun σ S Q Q' h w => iho.1 _ _ _ _ (fun xs S1 => one1_mono fun x S ⟨a, kvs0, e1, e2, q⟩ => ⟨a, kvs0, e1, e2, ihk.1 _ _ _ _ (fun ys S2 => one1_mono fun y S ⟨kvs, ky, v, e1, e2, e3, e4, q⟩ => ⟨kvs, ky, v, e1, e2, e3, e4, h _ _ q⟩) q⟩) w, fun σ S K K' h w => w⟩
  | get1 o k iho ihk => exact ⟨fun σ S Q Q' h w => iho.1 _ _ _ _ (fun xs S1 => one1_mono fun x S q => ⟨q.1, ihk.1 _ _ _ _ (fun ys S2 => one1_mono fun y S => view_mono fun c ⟨kvs, ky, e1, e2, e3, q⟩ => ⟨kvs, ky, e1, e2, e3, h _ _ q⟩) q.2⟩) w, fun σ S K K' h w => w⟩
  | get2 o k d iho ihk ihd => exact ⟨fun σ S Q Q' h w => iho.1 _ _ _ _ (fun xs S1 => one1_mono fun x S q => ⟨q.1, ihk.1 _ _ _ _ (fun ys S2 => one1_mono fun y S => ihd.1 _ _ _ _ (fun zs S3 => one1_mono fun z S => view_mono fun c ⟨kvs, ky, dz, e1, e2, e3, e4, q⟩ => ⟨kvs, ky, dz, e1, e2, e3, e4, h _ _ q⟩)) q.2⟩) w, fun σ S K K' h w => w⟩
  | get2N o k d iho ihk ihd => exact ⟨fun σ S Q Q' h w => iho.1 _ _ _ _ (fun xs S1 => one1_mono fun x S ⟨a, kvs0, e1, e2, q⟩ => ⟨a, kvs0, e1, e2, ihk.1 _ _ _ _ (fun ys S2 => one1_mono fun y S => ihd.1 _ _ _ _ (fun zs S3 => one1_mono fun z S ⟨kvs, ky, dz, e1, e2, e3, e4, q⟩ => ⟨kvs, ky, dz, e1, e2, e3, e4, h _ _ q⟩)) q⟩) w, fun σ S K K' h w => w⟩
  | and a b iha ihb => exact ⟨fun σ S Q Q' h w => iha.1 _ _ _ _ (fun xs S1 => one1_mono fun x S => tstK_mono fun b S => Br.mono (ihb.1 _ _ _ _ h) (h _ _)) w, fun σ S K K' h w => w⟩
  | or a b iha ihb => exact ⟨fun σ S Q Q' h w => iha.1 _ _ _ _ (fun xs S1 => one1_mono fun x S => tstK_mono fun b S => Br.mono (h _ _) (ihb.1 _ _ _ _ h)) w, fun σ S K K' h w => w⟩
  | one a ih => exact ⟨fun σ S Q Q' h w => ih.1 _ _ _ _ (fun xs S1 => one1_mono fun x S => tstK_mono fun b S => h _ _) w, fun σ S K K' h w => w⟩
  | not a ih => exact ⟨fun σ S Q Q' h w => ih.1 _ _ _ _ (fun xs S1 => one1_mono fun x S => tstK_mono fun b S => h _ _) w, fun σ S K K' h w => w⟩
  | ife k a b ihk iha ihb => exact ⟨fun σ S Q Q' h w => ihk.1 _ _ _ _ (fun xs S1 => one1_mono fun x S => tstK_mono fun b S => Br.mono (iha.1 _ _ _ _ fun xs S => one1_mono fun x S => h _ _) (ihb.1 _ _ _ _ fun xs S => one1_mono fun x S => h _ _)) w, fun σ S K K' h w => w⟩
  | chain o o' a b k iha ihb ihk => exact ⟨fun σ S Q Q' h w => iha.1 _ _ _ _ (fun xs S1 => one1_mono fun x S => ihb.1 _ _ _ _ (fun ys S2 => one1_mono fun y S => op2D_mono fun z S => tstK_mono fun b S => Br.mono
      (ihk.1 _ _ _ _ fun ys S2 => one1_mono fun y S => op2D_mono fun z S => tstK_mono fun b S => h _ _) (h _ _))) w, fun σ S K K' h w => w⟩
  | slc a b k iha ihb ihk => exact ⟨fun σ S Q Q' h w => iha.1 _ _ _ _ (fun xs S1 => one1_mono fun x S => ihb.1 _ _ _ _ (fun ys S2 => one1_mono fun y S ⟨l, e, q⟩ => ⟨l, e, ihk.1 _ _ _ _ (fun ys S2 => one1_mono fun z S ⟨u, e', q⟩ => ⟨u, e', view_mono (fun c => slcC_mono fun x S => h _ _) q⟩) q⟩)) w, fun σ S K K' h w => w⟩
  | call f as ih => exact ⟨fun σ S Q Q' h w => ih.1 _ _ _ _ (fun xs S1 => hc _ _ _ _ _ fun x S => h _ _) w, fun σ S K K' h w => w⟩
  | meth f o as iho ih => exact ⟨fun σ S Q Q' h w => iho.1 _ _ _ _ (fun xs S1 => one1_mono fun x S ⟨a, fs, e, e', q⟩ => ⟨a, fs, e, e', ih.1 _ _ _ _ (fun xs S1 => hc _ _ _ _ _ fun x S => h _ _) q⟩) w, fun σ S K K' h w => w⟩
  | make k as ih => exact ⟨fun σ S Q Q' h w => ih.1 _ _ _ _ (fun xs S1 q a ha => hc _ _ _ _ _ (fun x S z => ⟨z.1, h _ _ z.2⟩) (q a ha)) w, fun σ S K K' h w => w⟩
  | maken k as ih => exact ⟨fun σ S Q Q' h w => ih.1 _ _ _ _ (fun xs S1 q a ha => hc _ _ _ _ _ (fun x S z => ⟨z.1, h _ _ z.2⟩) (q a ha)) w, fun σ S K K' h w => w⟩
  | fld o ci k ih => exact ⟨fun σ S Q Q' h w => ih.1 _ _ _ _ (fun xs S1 => one1_mono fun x S ⟨a, fs, e, e', y, z, q⟩ => ⟨a, fs, e, e', y, z, h _ _ q⟩) w, fun σ S K K' h w => w⟩
  | hm m o as iho ih => exact ⟨fun σ S Q Q' h w => iho.1 _ _ _ _ (fun xs S1 => one1_mono fun x S => bx_mono fun d S ⟨a, ds, e, e', q⟩ => ⟨a, ds, e, e', ih.1 _ _ _ _ (fun xs S ⟨ob, z, q⟩ => ⟨ob, z, mutC_mono (fun c r ⟨o', z, q⟩ => ⟨o', z, h _ _ q⟩) q⟩) q⟩) w, fun σ S K K' h w => w⟩
  | comp tg elt it tst ihe ihi iht => exact ⟨fun σ S Q Q' h w => ihi.2 _ _ _ _ (fun J S => compL_mono (fun σ S K K' h => ihe.1 σ S (one1 fun y S2 => bx y S2 K) (one1 fun y S2 => bx y S2 K') fun xs S => one1_mono fun x S => bx_mono h) (fun σ S K K' h => iht.1 σ S (one1 (tstK K)) (one1 (tstK K')) fun xs S => one1_mono fun x S => tstK_mono h) (fun a S => h [.vl a] S) _ _ _) w, fun σ S K K' h w => w⟩
  | itv i => exact ⟨fun σ S Q Q' h w => w, fun σ S K K' h ⟨x, e, w⟩ => ⟨x, e, srcX_mono h w⟩⟩
  | ite e ih => exact ⟨fun σ S Q Q' h w => w, fun σ S K K' h w => ih.1 _ _ _ _ (fun xs S => one1_mono fun x S => srcX_mono h) w⟩
  | ichs a ih => exact ⟨fun σ S Q Q' h w => w, fun σ S K K' h w => ih.1 _ _ _ _ (fun xs S => one1_mono fun x S ⟨n, e, q⟩ => ⟨n, e, h _ _ q⟩) w⟩
  | rng a ih => exact ⟨fun σ S Q Q' h w => w, fun σ S K K' h w => ih.1 _ _ _ _ (fun xs S => one1_mono fun x S ⟨n, e, z, z', q⟩ => ⟨n, e, z, z', h _ _ q⟩) w⟩
  | rng2 a b iha ihb => exact ⟨fun σ S Q Q' h w => w, fun σ S K K' h w => iha.1 _ _ _ _ (fun xs S => one1_mono fun x S => ihb.1 _ _ _ _ fun xs S => one1_mono fun x S ⟨n, m, e, e', z, q⟩ => ⟨n, m, e, e', z, h _ _ q⟩) w⟩
  | rng3 a b s iha ihb ihs => exact ⟨fun σ S Q Q' h w => w, fun σ S K K' h w => iha.1 _ _ _ _ (fun xs S => one1_mono fun x S => ihb.1 _ _ _ _ fun xs S => one1_mono fun y S => ihs.1 _ _ _ _ fun xs S => one1_mono fun z S ⟨i, j, k, n, e1, e2, e3, e4, q⟩ => ⟨i, j, k, n, e1, e2, e3, e4, h _ _ q⟩) w⟩
  | enu a ih => exact ⟨fun σ S Q Q' h w => w, fun σ S K K' h w => ih.2 _ _ _ _ (fun J S => h _ _) w⟩
  | sIt e ih => exact ⟨fun σ S Q Q' h w => ih.1 _ _ _ _ (fun xs S1 => one1_mono fun x S => view_mono fun c ⟨ps, e, z, q⟩ => ⟨ps, e, z, fun qs p p' => h _ _ (q qs p p')⟩) w, fun σ S K K' h w => w⟩
  | rev e ih => exact ⟨fun σ S Q Q' h w => ih.1 _ _ _ _ (fun xs S1 => one1_mono fun x S => view_mono fun c ⟨ps, z⟩ => ⟨ps, z.imp (fun ⟨e, q⟩ => ⟨e, h _ _ q⟩) (fun ⟨e, q⟩ => ⟨e, h _ _ q⟩)⟩) w, fun σ S K K' h w => w⟩
  | lrg e ih => exact ⟨fun σ S Q Q' h w => ih.1 _ _ _ _ (fun xs S1 => one1_mono fun x S ⟨n, e, z1, z2, q⟩ => ⟨n, e, z1, z2, h _ _ q⟩) w, fun σ S K K' h w => w⟩
  | bm1 m o a iho iha => exact ⟨fun σ S Q Q' h w => iho.1 _ _ _ _ (fun xs S1 => one1_mono fun x S ⟨ty, q⟩ => ⟨ty, iha.1 _ _ _ _ (fun ys S2 => one1_mono fun y S => bmD_mono fun z S3 => h _ _) q⟩) w, fun σ S K K' h w => w⟩
  | upper o ih => exact ⟨fun σ S Q Q' h w => ih.1 _ _ _ _ (fun xs S1 => one1_mono fun x S ⟨s, e, z, q⟩ => ⟨s, e, z, h _ _ q⟩) w, fun σ S K K' h w => w⟩
  | setop k a ih => exact ⟨fun σ S Q Q' h w => ih.1 _ _ _ _ (fun xs S1 => one1_mono fun x S => view_mono fun c ⟨ns, e, z1, q⟩ => ⟨ns, e, z1, fun ms p1 p2 p3 => h _ _ (q ms p1 p2 p3)⟩) w, fun σ S K K' h w => w⟩
  | slen a ih => exact ⟨fun σ S Q Q' h w => ih.1 _ _ _ _ (fun xs S1 => one1_mono fun x S => view_mono fun c ⟨ns, e, z1, q⟩ => ⟨ns, e, z1, fun ms p1 p2 => h _ _ (q ms p1 p2)⟩) w, fun σ S K K' h w => w⟩
  | dctn => exact ⟨fun σ S Q Q' h w a ha => h _ _ (w a ha), fun σ S K K' h w => w⟩
  | lend i e ih => exact ⟨fun σ S Q Q' h ⟨a, ds, e1, e2, w⟩ => ⟨a, ds, e1, e2, ih.1 _ _ _ _ (fun xs S q => ⟨q.1, q.2.1, fun z => h _ _ (q.2.2 z)⟩) w⟩, fun σ S K K' h w => w⟩
  | lockEN e ih => exact ⟨fun σ S Q Q' h ⟨a, kvs, e1, w⟩ => ⟨a, kvs, e1, fun z ns => ih.1 _ _ _ _ (fun xs S q => ⟨q.1, h _ _ q.2⟩) (w z ns)⟩, fun σ S K K' h w => w⟩
  | dctn1 k v ihk ihv => exact ⟨fun σ S Q Q' h w => ihk.1 _ _ _ _ (fun xs S1 => one1_mono fun x S => ihv.1 _ _ _ _ (fun ys S2 => one1_mono fun y S => bx_mono fun d S3 ⟨kd, e1, e2, q⟩ => ⟨kd, e1, e2, fun a ha => h _ _ (q a ha)⟩)) w, fun σ S K K' h w => w⟩
  | kmem neg k a ih => exact ⟨fun σ S Q Q' h w => ih.1 _ _ _ _ (fun xs S1 => one1_mono fun x S ⟨s, e, q⟩ => ⟨s, e, h _ _ q⟩) w, fun σ S K K' h w => w⟩
  | kidx k a ih => exact ⟨fun σ S Q Q' h w => ih.1 _ _ _ _ (fun xs S1 => one1_mono fun x S ⟨s, v, e, e2, q⟩ => ⟨s, v, e, e2, h _ _ q⟩) w, fun σ S K K' h w => w⟩
  | lockV e ih => exact ⟨fun σ S Q Q' h w => ih.1 _ _ _ _ (fun xs S1 => one1_mono fun x S ⟨a, kvs, e1, e2, q⟩ => ⟨a, kvs, e1, e2, fun z ns => h _ _ (q z ns)⟩) w, fun σ S K K' h w => w⟩
  | stp a k iha ihk => exact ⟨fun σ S Q Q' h w => iha.1 _ _ _ _ (fun xs S1 => one1_mono fun x S => ihk.1 _ _ _ _ fun ys S2 => one1_mono fun y S ⟨z, e, hz, q⟩ => ⟨z, e, hz, view_mono (fun c ⟨ds, e, q⟩ => ⟨ds, e, h _ _ q⟩) q⟩) w, fun σ S K K' h w => w⟩
  | lockE e ih => exact ⟨fun σ S Q Q' h ⟨a, kvs, e1, w⟩ => ⟨a, kvs, e1, fun z => ih.1 _ _ _ _ (fun xs S q => ⟨q.1, h _ _ q.2⟩) (w z)⟩, fun σ S K K' h w => w⟩
  | itk e ih => exact ⟨fun σ S Q Q' h w => w, fun σ S K K' h w => ih.1 _ _ _ _ (fun xs S => one1_mono fun x S ⟨a, kvs, z, e1, e2, q⟩ => ⟨a, kvs, z, e1, e2, h _ _ q⟩) w⟩
  | enuk e ih => exact ⟨fun σ S Q Q' h w => w, fun σ S K K' h w => ih.1 _ _ _ _ (fun xs S => one1_mono fun x S ⟨a, kvs, z, e1, e2, q⟩ => ⟨a, kvs, z, e1, e2, h _ _ q⟩) w⟩
  | itkn e ih => exact ⟨fun σ S Q Q' h w => w, fun σ S K K' h w => ih.1 _ _ _ _ (fun xs S => one1_mono fun x S ⟨a, kvs, z, ns, e1, e2, q⟩ => ⟨a, kvs, z, ns, e1, e2, h _ _ q⟩) w⟩
  | itms e ih => exact ⟨fun σ S Q Q' h w => w, fun σ S K K' h w => ih.1 _ _ _ _ (fun xs S => one1_mono fun x S ⟨a, kvs, z, e1, e2, q⟩ => ⟨a, kvs, z, e1, e2, h _ _ q⟩) w⟩
  | zip a b iha ihb => exact ⟨fun σ S Q Q' h w => w, fun σ S K K' h w => iha.2 _ _ _ _ (fun J S => ihb.2 _ _ _ _ fun J S q => ⟨q.1, q.2.1, h _ _ q.2.2⟩) w⟩
  | _ => exact ⟨fun σ S Q Q' h w => w, fun σ S K K' h w => w⟩
theorem wpE_mono (hc : CalMono c) {r : R} {σ : Sl} {S : Hs} {Q Q' : LK2} (w : wpE T c r σ S Q) (h : ∀ x S, Q x S → Q' x S) : wpE T c r σ S Q' := (wp_mono hc r).1 _ _ _ _ h w
theorem wpI_mono (hc : CalMono c) {r : R} {σ : Sl} {S : Hs} {Q Q' : It2 → Hs → Prop} (w : wpI T c r σ S Q) (h : ∀ x S, Q x S → Q' x S) : wpI T c r σ S Q' := (wp_mono hc r).2 _ _ _ _ h w
theorem forL_mono {tg : Tg} {ok : Sl → Hs → Prop} {b b' : (Sl → Hs → Prop) → Sl → Hs → Prop} {nx nx' : Sl → Hs → Prop} (hb : ∀ k k' σ S, (∀ σ S, k σ S → k' σ S) → b k σ S → b' k' σ S) (hn : ∀ σ S, nx σ S → nx' σ S) :
    ∀ (xs : List D) (σ : Sl) (S : Hs), forL tg ok b nx xs σ S → forL tg ok b' nx' xs σ S
  | [], _, _, w => ⟨w.1, hn _ _ w.2⟩
  | x :: xs, σ, S, w => ⟨w.1, bindT_mono (fun σ' => hb _ _ _ _ (forL_mono hb hn xs)) w.2⟩
theorem whlN_mono {t t' : Sl → Hs → (Bool → Hs → Prop) → Prop} {b b' : (Sl → Hs → Prop) → Sl → Hs → Prop} {nx nx' : Sl → Hs → Prop} (ht : ∀ σ S K K', (∀ b S, K b S → K' b S) → t σ S K → t' σ S K')
    (hb : ∀ k k' σ S, (∀ σ S, k σ S → k' σ S) → b k σ S → b' k' σ S) (hn : ∀ σ S, nx σ S → nx' σ S) : ∀ (n : Nat) (σ : Sl) (S : Hs), whlN t b nx n σ S → whlN t' b' nx' n σ S
  | 0, _, _, w => w
  | n + 1, σ, S, w => ht _ _ _ _ (fun b S => Br.mono (hb _ _ _ _ (whlN_mono ht hb hn n)) (hn _ _)) w
theorem wpS_mono (hc : CalMono c) {r : R} : ∀ {σ : Sl} {S : Hs} {nx nx' : SK2} {rt rt' : VK2} {bk bk' ct ct' : SK2}, (∀ σ S, nx σ S → nx' σ S) → (∀ x S, rt x S → rt' x S) → (∀ σ S, bk σ S → bk' σ S) → (∀ σ S, ct σ S → ct' σ S) →
    wpS T c r σ S nx rt bk ct → wpS T c r σ S nx' rt' bk' ct' := by
  induction r with
  | seq a r iha ihr => exact fun h1 h2 h3 h4 w => iha (fun σ S => ihr h1 h2 h3 h4) h2 h3 h4 w
  | skip => exact fun h1 h2 h3 h4 w => h1 _ _ w
  | expr e => exact fun h1 h2 h3 h4 w => wpE_mono hc w fun xs S => one1_mono fun x S => h1 _ _
  | set i e => exact fun h1 h2 h3 h4 w => wpE_mono hc w fun xs S => one1_mono fun x S => stor_mono (h1 _ _)
  | setT is e => exact fun h1 h2 h3 h4 w => wpE_mono hc w fun xs S => one1_mono fun x S => view_mono fun c ⟨ds, e, σ', e', q⟩ => ⟨ds, e, σ', e', h1 _ _ q⟩
  | seti o k e => exact fun h1 h2 h3 h4 w => wpE_mono hc w fun xs S => one1_mono fun x S => bx_mono fun d S q => wpE_mono hc q fun xs S => one1_mono fun x S q => wpE_mono hc q fun xs S => one1_mono fun x S ⟨a, ob, kd, e1, e2, e3, q⟩ =>
      ⟨a, ob, kd, e1, e2, e3, mutC_mono (fun c r ⟨o', z, q⟩ => ⟨o', z, h1 _ _ q⟩) q⟩
  | oseti i k e => exact fun h1 h2 h3 h4 w => wpE_mono hc w fun xs S => one1_mono fun x S => bx_mono fun d S ⟨x, e1, q⟩ => ⟨x, e1, wpE_mono hc q fun xs S => one1_mono fun x S ⟨kd, e2, q⟩ =>
      ⟨kd, e2, ownC_mono (fun c => mutC_mono fun c r => h1 _ _) q⟩⟩
  | slcset o e => exact fun h1 h2 h3 h4 w => wpE_mono hc w fun xs S => one1_mono fun x S ⟨b, e1, q⟩ => ⟨b, e1, wpE_mono hc q fun xs S => one1_mono fun x S ⟨a, xs, ys, e1, e2, e3, e4, e5, q⟩ => ⟨a, xs, ys, e1, e2, e3, e4, e5, h1 _ _ q⟩⟩
  | setNAN i o ci k j e => exact fun h1 h2 h3 h4 w => wpE_mono hc w fun xs S => one1_mono fun x S => view_mono fun c ⟨d0, d1, d2, e1, q⟩ => ⟨d0, d1, d2, e1, wpE_mono hc q fun xs S => one1_mono fun x S ⟨a, fs, e1, e2, e3, q⟩ => ⟨a, fs, e1, e2, e3, h1 _ _ q⟩⟩
  | fset o ci k e => exact fun h1 h2 h3 h4 w => wpE_mono hc w fun xs S => one1_mono fun x S => bx_mono fun d S q => wpE_mono hc q fun xs S => one1_mono fun x S ⟨a, fs, e1, e2, e3, q⟩ => ⟨a, fs, e1, e2, e3, h1 _ _ q⟩
  | faug o ci k e => exact fun h1 h2 h3 h4 w => wpE_mono hc w fun xs S => one1_mono fun x S ⟨a, fs, i, e1, e2, e3, q⟩ => ⟨a, fs, i, e1, e2, e3, wpE_mono hc q fun xs S => one1_mono fun x S ⟨j, fs', e1, e2, e3, q⟩ => ⟨j, fs', e1, e2, e3, h1 _ _ q⟩⟩
  | iff k a r _ iha ihr => exact fun h1 h2 h3 h4 w => wpE_mono hc w fun xs S => one1_mono fun x S => tstK_mono fun b S => Br.mono (iha h1 h2 h3 h4) (ihr h1 h2 h3 h4)
  | whl k a _ iha => exact fun h1 h2 h3 h4 ⟨n, w⟩ => ⟨n, whlN_mono (fun σ S K K' h (q : wpE T c k σ S (one1 (tstK K))) => (wpE_mono hc q (fun xs S => one1_mono fun x S => tstK_mono h) : wpE T c k σ S (one1 (tstK K')))) (fun k k' σ S h => iha (σ := σ) (S := S) h h2 h1 h) h1 n _ _ w⟩
  | «for» tg it a _ iha => exact fun h1 h2 h3 h4 w => wpI_mono hc w fun J S => forL_mono (fun k k' σ S h => iha (σ := σ) (S := S) h h2 h1 h) h1 _ _ _
  | ret e => exact fun h1 h2 h3 h4 w => wpE_mono hc w fun xs S => one1_mono fun x S => stor_mono (h2 _ _)
  | retn => exact fun h1 h2 h3 h4 w => h2 _ _ w
  | retv i => exact fun h1 h2 h3 h4 ⟨x, e, w⟩ => ⟨x, e, stor_mono (h2 _ _) w⟩
  | brk => exact fun h1 h2 h3 h4 w => h3 _ _ w
  | cnt => exact fun h1 h2 h3 h4 w => h4 _ _ w
  | box i => exact fun h1 h2 h3 h4 ⟨x, e, w⟩ => ⟨x, e, bx_mono (fun d S => h1 _ _) w⟩
  | tryp st ih => exact fun h1 h2 h3 h4 w => ih h1 h2 h3 h4 w
  | lockN st ih => exact fun h1 h2 h3 h4 ⟨a, kvs, e, w⟩ => ⟨a, kvs, e, fun z ns => ih (fun σ S q => ⟨q.1, h1 _ _ q.2⟩) (fun x S q => ⟨q.1, h2 _ _ q.2⟩) (fun σ S q => ⟨q.1, h3 _ _ q.2⟩) (fun σ S q => ⟨q.1, h4 _ _ q.2⟩) (w z ns)⟩
  | lock st ih => exact fun h1 h2 h3 h4 ⟨a, kvs, e, w⟩ => ⟨a, kvs, e, fun z => ih (fun σ S q => ⟨q.1, h1 _ _ q.2⟩) (fun x S q => ⟨q.1, h2 _ _ q.2⟩) (fun σ S q => ⟨q.1, h3 _ _ q.2⟩) (fun σ S q => ⟨q.1, h4 _ _ q.2⟩) (w z)⟩
  | om m i as dst => exact fun h1 h2 h3 h4 ⟨x, e, w⟩ => ⟨x, e, wpE_mono hc w fun xs S q => mutC_mono (fun c r => h1 _ _) q⟩
  | _ => exact fun h1 h2 h3 h4 w => w
end
theorem cal_mono {T : Tbl} : ∀ n, CalMono (cal T n)
  | 0 => fun _ _ _ _ _ _ w => w
  | n + 1 => fun f xs S Q Q' h ⟨F, e, l, o, w⟩ => ⟨F, e, l, o, wpS_mono (cal_mono n) (fun σ S => h _ _) h (fun _ _ z => z) (fun _ _ z => z) w⟩
end DL
namespace DL
open PySem L2 PySem.Spec PyProof.Rows
noncomputable abbrev Frag := PySem.W.Frag
noncomputable abbrev sv (s : List Nat) : Str := ⟨s.toArray⟩
noncomputable def SqE (H : Hp) (t : Addr) (vs : List V) : Prop := ∃ o, H t = some (.frz o (.tup vs)) ∧ o.dict = none
theorem SqE.t {K : Frag} {H : Hp} {t : Addr} {vs : List V} (h : SqE H t vs) : SqT K H t vs := let ⟨o, e, _⟩ := h; .inl (.inr ⟨o, e⟩)
mutual
noncomputable def RepV (K : Frag) (H : Hp) : D → V → Prop
  | .non, v => v = .non
  | .bl b, v => v = .bl b
  | .int i, v => v = .int i
  | .str s, v => v = .str (sv s)
  | .ref a, v => v = .ref a
  | .tup ds, v => ∃ t vs, v = .ref t ∧ SqT K H t vs ∧ RepL K H ds vs
  | .xt ds, v => ∃ t vs, v = .ref t ∧ SqE H t vs ∧ RepL K H ds vs
noncomputable def RepL (K : Frag) (H : Hp) : List D → List V → Prop
  | [], vs => vs = []
  | d :: ds, vs => ∃ v vr, vs = v :: vr ∧ RepV K H d v ∧ RepL K H ds vr
end
structure Cls2 where
  adr : Nat → Addr
  lay : Nat → List Str
  w : World
noncomputable def KeyR : D → Key → Prop
  | .int i, k => k = .inl i
  | .str s, k => k = .inr (sv s)
  | _, _ => False
noncomputable def DicR (K : Frag) (H : Hp) (kvs : List (D × D)) (ks : List (Key × V)) : Prop := Paired (fun (p : D × D) (q : Key × V) => KeyR p.1 q.1 ∧ RepV K H p.2 q.2) kvs ks
mutual
noncomputable def nkD : D → NestedKey
  | .non => .none
  | .bl b => .num (if b then 1 else 0)
  | .int i => .num i
  | .str s => .text (sv s)
  | .ref _ => .none
  | .xt _ => .none
  | .tup ds => .tup (nkDs ds)
noncomputable def nkDs : List D → List NestedKey
  | [] => []
  | d :: ds => nkD d :: nkDs ds
end
noncomputable abbrev NE := NestedKey × Addr × Value
noncomputable def entN (w : World) (x : NE) : DictEntry := ⟨x.1.hash w, .ref x.2.1, x.2.2⟩
noncomputable def dnP (w : World) (a : Addr) (xs : List NE) (h : Heap) : Prop := ∃ o es ep, h.get? a = some o ∧ o.ExactDict ∧ o.data = .dict es ep ∧ es.toList = xs.map (entN w)
noncomputable def dnO (w : World) (a : Addr) (xs : List NE) : HO := .ext (dnP w a xs)
noncomputable def DnE (K : Frag) (H : Hp) (p : D × D) (x : NE) : Prop := keyN p.1 = true ∧ x.1 = nkD p.1 ∧ RepV K H p.1 (.ref x.2.1) ∧ ∃ v, RelV v x.2.2 ∧ RepV K H p.2 v
noncomputable def DnR (K : Frag) (H : Hp) (kvs : List (D × D)) (xs : List NE) : Prop := Paired (DnE K H) kvs xs
structure DnOk (K : Frag) (H : Hp) (a : Addr) (kvs : List (D × D)) (xs : List NE) : Prop where
  r : DnR K H kvs xs
  nd : (xs.map (·.1)).Nodup
  z : xs.length ≤ sizeLine
  m : (a == sysModules) = false
noncomputable def RelO (K : Frag) (cx : Cls2) (H : Hp) (a : Addr) : O → Prop
  | .lst ds => ∃ vs, H a = some (.lst vs) ∧ RepL K H ds vs
  | .dic kvs => ∃ ks, H a = some (.dK ks) ∧ DicR K H kvs ks
  | .fdc kvs h => H a = some h ∧ ∃ o ks, h = .frz o (.dK ks) ∧ DicR K H kvs ks
  | .dn kvs => ∃ xs, H a = some (dnO cx.w a xs) ∧ DnOk K H a kvs xs
  | .fdn kvs h xs => H a = some h ∧ ∃ o, h = .frz o (dnO cx.w a xs) ∧ DnOk K H a kvs xs
  | .ins c fs => ∃ dx fv, H a = some (.ins (cx.adr c) dx fv) ∧ fv.map Prod.fst = (cx.lay c).take fs.length ∧ fs.length ≤ (cx.lay c).length ∧ RepL K H fs (fv.map Prod.snd)
noncomputable def Rel (K : Frag) (cx : Cls2) (S : Hs) (H : Hp) : Prop := ∀ a o, S a = some o → RelO K cx H a o
noncomputable def RepX (K : Frag) (H : Hp) (S : Hs) : Vx → V → Prop
  | .d x, v => RepV K H x v
  | .vl ds, v => ∃ a vs, v = .ref a ∧ H a = some (.lst vs) ∧ S a = none ∧ RepL K H ds vs
  | .bw ds, v => ∃ a vs, v = .ref a ∧ H a = some (.lst vs) ∧ S a = none ∧ RepL K H ds vs
  | .fz ds, v => ∃ a vs, v = .ref a ∧ ((∃ o, H a = some (.frz o (.lst vs)) ∧ S a = none) ∨ SqL K (fun _ => none) a vs) ∧ RepL K H ds vs
  | .vd kvs, v => ∃ a ks, v = .ref a ∧ H a = some (.dK ks) ∧ S a = none ∧ DicR K H kvs ks
  | .bd kvs, v => ∃ a ks, v = .ref a ∧ H a = some (.dK ks) ∧ S a = none ∧ DicR K H kvs ks
  | .st _, _ => False
noncomputable def RepR (K : Frag) (H0 H : Hp) (S : Hs) (x : Vx) (v : V) : Prop := RepX K H S x v ∧ (own x = true → ∃ a, v = .ref a ∧ H0 a = none)
structure Keep (S S' : Hs) (H H' : Hp) : Prop where
  kp : ∀ b o, H b = some o → S b = none → H' b = some o ∧ S' b = none
  up : ∀ b, H' b = none → H b = none
theorem Keep.refl {S : Hs} {H : Hp} : Keep S S H H := ⟨fun b o e n => ⟨e, n⟩, fun _ e => e⟩
theorem Keep.trans {S1 S2 S3 : Hs} {H1 H2 H3 : Hp} (a : Keep S1 S2 H1 H2) (b : Keep S2 S3 H2 H3) : Keep S1 S3 H1 H3 :=
  ⟨fun c o e n => let ⟨e', n'⟩ := a.kp c o e n; b.kp c o e' n', fun c e => a.up c (b.up c e)⟩
section
variable {K : Frag} {cx : Cls2} {S S' : Hs} {H H' H0 : Hp}
noncomputable def TupS (K : Frag) (H H' : Hp) : Prop := (∀ t vs, SqT K H t vs → SqT K H' t vs) ∧ ∀ t vs, SqE H t vs → SqE H' t vs
mutual
theorem RepV.keep (h : TupS K H H') : ∀ (d : D) (v : V), RepV K H d v → RepV K H' d v
  | .non, _, r => r
  | .bl _, _, r => r
  | .int _, _, r => r
  | .str _, _, r => r
  | .ref _, _, r => r
  | .tup ds, _, ⟨t, vs, e, q, r⟩ => ⟨t, vs, e, h.1 _ _ q, RepL.keep h ds vs r⟩
  | .xt ds, _, ⟨t, vs, e, q, r⟩ => ⟨t, vs, e, h.2 _ _ q, RepL.keep h ds vs r⟩
theorem RepL.keep (h : TupS K H H') : ∀ (ds : List D) (vs : List V), RepL K H ds vs → RepL K H' ds vs
  | [], _, r => r
  | d :: ds, _, ⟨v, vr, e, r, rr⟩ => ⟨v, vr, e, RepV.keep h d v r, RepL.keep h ds vr rr⟩
end
theorem DicR.keep (h : TupS K H H') {kvs : List (D × D)} {ks : List (Key × V)} (r : DicR K H kvs ks) : DicR K H' kvs ks := Paired.mapP r fun p q z => ⟨z.1, RepV.keep h _ _ z.2⟩
theorem DnOk.keep (h : TupS K H H') {a : Addr} {kvs : List (D × D)} {xs : List NE} (r : DnOk K H a kvs xs) : DnOk K H' a kvs xs := ⟨Paired.mapP r.r fun p q z => ⟨z.1, z.2.1, RepV.keep h _ _ z.2.2.1, let ⟨v, h1, h2⟩ := z.2.2.2; ⟨v, h1, RepV.keep h _ _ h2⟩⟩, r.nd, r.z, r.m⟩
theorem RepL.nil : RepL K H [] [] := rfl
theorem RepL.cons {d : D} {ds : List D} {v : V} {vs : List V} (r : RepV K H d v) (rr : RepL K H ds vs) : RepL K H (d :: ds) (v :: vs) := ⟨v, vs, rfl, r, rr⟩
theorem RepL.length : ∀ {ds : List D} {vs : List V}, RepL K H ds vs → ds.length = vs.length
  | [], _, e => by cases e; rfl
  | d :: ds, _, ⟨v, vr, e, r, rr⟩ => by subst e; simp [RepL.length rr]
theorem RepL.get : ∀ {ds : List D} {vs : List V} {i : Nat} {d : D}, RepL K H ds vs → ds[i]? = some d → ∃ v, vs[i]? = some v ∧ RepV K H d v
  | [], _, _, _, _, q => by simp at q
  | d :: ds, _, 0, _, ⟨v, vr, e, r, rr⟩, q => by simp at q; subst q; subst e; exact ⟨v, by simp, r⟩
  | d :: ds, _, i + 1, x, ⟨v, vr, e, r, rr⟩, q => by
    obtain ⟨u, h1, h2⟩ := RepL.get (i := i) (d := x) rr (by simpa using q)
    subst e
    exact ⟨u, by simpa using h1, h2⟩
theorem RepL.append : ∀ {ds es : List D} {vs us : List V}, RepL K H ds vs → RepL K H es us → RepL K H (ds ++ es) (vs ++ us)
  | [], _, _, _, e, q => by cases e; exact q
  | d :: ds, _, _, _, ⟨v, vr, e, r, rr⟩, q => by subst e; exact ⟨v, _, rfl, r, RepL.append rr q⟩
theorem RepL.take : ∀ {ds : List D} {vs : List V} (n : Nat), RepL K H ds vs → RepL K H (ds.take n) (vs.take n)
  | _, _, 0, _ => by simp [RepL]
  | [], _, n + 1, e => by cases e; simp [RepL]
  | d :: ds, _, n + 1, ⟨v, vr, e, r, rr⟩ => by subst e; exact ⟨v, _, rfl, r, RepL.take n rr⟩
theorem RepL.drop : ∀ {ds : List D} {vs : List V} (n : Nat), RepL K H ds vs → RepL K H (ds.drop n) (vs.drop n)
  | _, _, 0, r => by simpa using r
  | [], _, n + 1, e => by cases e; simp [RepL]
  | d :: ds, _, n + 1, ⟨v, vr, e, r, rr⟩ => by subst e; exact RepL.drop n rr
theorem RepL.cut {ds : List D} {vs : List V} (r : RepL K H ds vs) (lo hi : Option Int) : RepL K H (cutI ds lo hi) (cutV vs lo hi) := by
  unfold cutI cutV
  rw [r.length]
  exact (r.drop _).take _
theorem RepL.set : ∀ {ds : List D} {vs : List V} (n : Nat) {d : D} {v : V}, RepL K H ds vs → RepV K H d v → RepL K H (ds.set n d) (vs.set n v)
  | [], _, _, _, _, e, _ => by cases e; simp [RepL]
  | d :: ds, _, 0, _, _, ⟨v, vr, e, r, rr⟩, q => by subst e; exact ⟨_, _, rfl, q, rr⟩
  | d :: ds, _, n + 1, _, _, ⟨v, vr, e, r, rr⟩, q => by subst e; exact ⟨_, _, rfl, r, RepL.set n rr q⟩
theorem RepL.eraseIdx : ∀ {ds : List D} {vs : List V} (n : Nat), RepL K H ds vs → RepL K H (ds.eraseIdx n) (vs.eraseIdx n)
  | [], _, _, e => by cases e; simp [RepL]
  | d :: ds, _, 0, ⟨v, vr, e, r, rr⟩ => by subst e; exact rr
  | d :: ds, _, n + 1, ⟨v, vr, e, r, rr⟩ => by subst e; exact ⟨_, _, rfl, r, RepL.eraseIdx n rr⟩
theorem RepL.dropLast {ds : List D} {vs : List V} (r : RepL K H ds vs) : RepL K H ds.dropLast vs.dropLast := by
  rw [List.dropLast_eq_take, List.dropLast_eq_take, r.length]
  exact r.take _
theorem RepL.rep {ds : List D} {vs : List V} (r : RepL K H ds vs) : ∀ n, RepL K H (repD ds n) ((List.replicate n vs).flatten)
  | 0 => by simp [repD, RepL]
  | n + 1 => by
    have := RepL.append r (RepL.rep r n)
    simpa [repD, List.replicate_succ] using this
theorem RepL.ints : ∀ {ns : List Int} {vs : List V}, RepL K H (ns.map D.int) vs → vs = ns.map V.int
  | [], _, e => e
  | n :: ns, _, ⟨v, vr, e, r, rr⟩ => by subst e; cases r; rw [RepL.ints rr]; rfl
theorem RepL.ofInts : ∀ (ns : List Int), RepL K H (ns.map D.int) (ns.map V.int)
  | [] => rfl
  | n :: ns => ⟨_, _, rfl, rfl, RepL.ofInts ns⟩
theorem RepL.bls : ∀ {ns : List Bool} {vs : List V}, RepL K H (ns.map D.bl) vs → vs = ns.map V.bl
  | [], _, e => e
  | n :: ns, _, ⟨v, vr, e, r, rr⟩ => by subst e; cases r; rw [RepL.bls rr]; rfl
noncomputable def seqish : HO → Bool
  | .tup _ => true
  | .frz _ (.dK _) => false
  | .frz _ (.ext _) => false
  | .frz _ _ => true
  | _ => false
theorem tupS_upd {a : Addr} {h : HO} (q : ∀ o, H a = some o → seqish o = false) : TupS K H (upd H a h) := by
  refine ⟨fun t vs hs => ?_, fun t vs ⟨o, hs, hd⟩ => ⟨o, by
    rw [upd_ne]
    · exact hs
    · rintro rfl
      have := q _ hs
      simp [seqish] at this, hd⟩⟩
  rcases hs with (hs | ⟨o, hs⟩) | hs
  · refine .inl (.inl ?_)
    rw [upd_ne]
    · exact hs
    · rintro rfl
      have := q _ hs
      simp [seqish] at this
  · refine .inl (.inr ⟨o, ?_⟩)
    rw [upd_ne]
    · exact hs
    · rintro rfl
      have := q _ hs
      simp [seqish] at this
  · exact .inr hs
theorem tupS_new {a : Addr} {h : HO} (q : H a = none) : TupS K H (upd H a h) := tupS_upd fun o e => by rw [q] at e; cases e
theorem RelO.keep {a : Addr} {o : O} (h : TupS K H H') (e : H' a = H a) (r : RelO K cx H a o) : RelO K cx H' a o := by
  cases o with
  | lst ds => obtain ⟨vs, q, r⟩ := r; exact ⟨vs, e.trans q, r.keep h⟩
  | dic kvs => obtain ⟨ks, q, r⟩ := r; exact ⟨ks, e.trans q, r.keep h⟩
  | fdc kvs z => obtain ⟨q, o, ks, e1, r⟩ := r; exact ⟨e.trans q, o, ks, e1, r.keep h⟩
  | dn kvs => obtain ⟨xs, q, r⟩ := r; exact ⟨xs, e.trans q, r.keep h⟩
  | fdn kvs z xs => obtain ⟨q, o, e1, r⟩ := r; exact ⟨e.trans q, o, e1, r.keep h⟩
  | ins c fs => obtain ⟨dx, fv, q, l1, l2, r⟩ := r; exact ⟨dx, fv, e.trans q, l1, l2, r.keep h⟩
theorem RelO.some {a : Addr} {o : O} (r : RelO K cx H a o) : ∃ h, H a = .some h ∧ seqish h = false := by
  cases o with
  | lst ds => obtain ⟨vs, q, r⟩ := r; exact ⟨_, q, rfl⟩
  | dic kvs => obtain ⟨ks, q, r⟩ := r; exact ⟨_, q, rfl⟩
  | fdc kvs z => obtain ⟨q, o, ks, e1, r⟩ := r; subst e1; exact ⟨_, q, rfl⟩
  | dn kvs => obtain ⟨xs, q, r⟩ := r; exact ⟨_, q, rfl⟩
  | fdn kvs z xs => obtain ⟨q, o, e1, r⟩ := r; subst e1; exact ⟨_, q, rfl⟩
  | ins c fs => obtain ⟨dx, fv, q, l1, l2, r⟩ := r; exact ⟨_, q, rfl⟩
theorem Rel.free (r : Rel K cx S H) {a : Addr} (e : H a = none) : S a = none := by
  cases q : S a with
  | none => rfl
  | some o =>
    obtain ⟨h, z, _⟩ := (r a o q).some
    rw [e] at z; cases z
theorem Rel.upd0 (r : Rel K cx S H) {a : Addr} {h : HO} (n : S a = none) (t : TupS K H (upd H a h)) : Rel K cx S (upd H a h) := fun b o e =>
  RelO.keep t (upd_ne fun z => by subst z; rw [n] at e; cases e) (r b o e)
theorem Rel.upd1 (r : Rel K cx S H) {a : Addr} {h : HO} {o : O} (t : TupS K H (upd H a h)) (q : RelO K cx (upd H a h) a o) : Rel K cx (su S a o) (upd H a h) := fun b u e => by
  by_cases z : b = a
  · subst z; rw [su_same] at e; cases e; exact q
  · rw [su_ne z] at e
    exact RelO.keep t (upd_ne z) (r b u e)
theorem Rel.box (r : Rel K cx S H) {a : Addr} {o : O} (q : RelO K cx H a o) : Rel K cx (su S a o) H := fun b u e => by
  by_cases z : b = a
  · subst z; rw [su_same] at e; cases e; exact q
  · rw [su_ne z] at e
    exact r b u e
theorem Keep.new {a : Addr} {h : HO} (n : H a = none) : Keep S S H (upd H a h) :=
  ⟨fun b o e z => ⟨by rw [upd_ne (ne_of_none e n)]; exact e, z⟩, fun b e => by
    by_cases z : b = a
    · subst z; exact n
    · rw [upd_ne z] at e; exact e⟩
theorem Keep.tups (k : Keep S S' H H') (r : Rel K cx S H) : TupS K H H' := by
  have key : ∀ t o, H t = .some o → seqish o = true → H' t = .some o := fun t o e q => by
    refine (k.kp t o e ?_).1
    cases z : S t with
    | none => rfl
    | some u =>
      obtain ⟨h, h1, h2⟩ := (r t u z).some
      rw [e] at h1; cases h1
      rw [q] at h2; cases h2
  refine ⟨fun t vs hs => ?_, fun t vs ⟨o, hs, hd⟩ => ⟨o, key _ _ hs rfl, hd⟩⟩
  rcases hs with (hs | ⟨o, hs⟩) | hs
  · exact .inl (.inl (key _ _ hs rfl))
  · exact .inl (.inr ⟨o, key _ _ hs rfl⟩)
  · exact .inr hs
theorem sqL_none {a : Addr} {vs : List V} (h : SqL K (fun _ => none) a vs) : SqL K H a vs := by
  rcases h with (h | ⟨o, h⟩) | h
  · cases h
  · cases h
  · exact .inr h
theorem fz_sql {a : Addr} {vs : List V} {S : Hs} (h : (∃ o, H a = some (.frz o (.lst vs)) ∧ S a = none) ∨ SqL K (fun _ => none) a vs) : SqL K H a vs := by
  rcases h with ⟨o, h, _⟩ | h
  · exact .inl (.inr ⟨o, h⟩)
  · exact sqL_none h
end
theorem tmul_same (l : Addr) (items : Array Value) (n : Nat) (dd : Option Addr) (sl : Array (Option Value)) (x : Int) (u : Tok) (c0 : (decide (x < -(2 ^ 63)) || decide (x ≥ 2 ^ 63)) = false) (c1 : (items.isEmpty || x == 1) = true) :
    Meets (Builtin.«tuple.__mul__» ⟨[.ref l, .int x u], []⟩) (fun _ R s => s.heap.get? l = some { cls := .type "tuple", dict := dd, data := .seq items n, slots := sl } ∧ R (.ok (.ret (Value.ref l))) s) :=
  .of_wp fun prog w A R s h => by
    obtain ⟨hp, g, d, tk, os⟩ := s
    obtain ⟨hl, h⟩ := h
    have f1 := AutoSeq1.idx_int
    wp_walk using wpAny_loadPart' hl
    repeat (first
      | (refine wpAny_ite_false (decide_eq_false (by rw [c0]; exact Bool.false_ne_true)) ?_; wp_walk using wpAny_loadPart' hl)
      | (refine wpAny_ite_true (decide_eq_true c1) ?_; wp_walk using wpAny_loadPart' hl))
    exact ⟨_, rfl, h⟩
theorem tmul_none (l : Addr) (items : Array Value) (n : Nat) (dd : Option Addr) (sl : Array (Option Value)) (x : Int) (u : Tok) (c0 : (decide (x < -(2 ^ 63)) || decide (x ≥ 2 ^ 63)) = false) (c1 : (items.isEmpty || x == 1) = false) (c2 : (decide (x ≤ 0) || items.isEmpty) = true) :
    Meets (Builtin.«tuple.__mul__» ⟨[.ref l, .int x u], []⟩) (fun _ R s => s.heap.get? l = some { cls := .type "tuple", dict := dd, data := .seq items n, slots := sl } ∧
      R (.ok (.ret (Value.ref s.heap.objs.size))) { s with heap := s.heap.push { cls := Value.type "tuple", data := Data.seq #[] }, toks := s.toks }) :=
  .of_wp fun prog w A R s h => by
    obtain ⟨hp, g, d, tk, os⟩ := s
    obtain ⟨hl, h⟩ := h
    have f1 := AutoSeq1.idx_int
    wp_walk using wpAny_loadPart' hl
    repeat (first
      | (refine wpAny_ite_false (decide_eq_false (by rw [c0]; exact Bool.false_ne_true)) ?_; wp_walk using wpAny_loadPart' hl)
      | (refine wpAny_ite_false (decide_eq_false (by rw [c1]; exact Bool.false_ne_true)) ?_; wp_walk using wpAny_loadPart' hl)
      | (refine wpAny_ite_true (decide_eq_true c2) ?_; wp_walk using wpAny_loadPart' hl))
    exact ⟨_, rfl, h⟩
noncomputable def rRepS (K : Frag) : R2 := fun x y H Q => ∃ l k xs, x = .ref l ∧ y = .int k ∧ SqT K H l xs ∧ (xs = [] ∨ k = 1) ∧ -(2 ^ 62) < k ∧ k ≤ 1000 ∧ Q (.ref l) H
noncomputable def rRepZ (K : Frag) : R2 := fun x y H Q => ∃ l k xs, x = .ref l ∧ y = .int k ∧ SqT K H l xs ∧ xs ≠ [] ∧ -(2 ^ 62) < k ∧ k ≤ 0 ∧ ∀ p, H p = none → Q (.ref p) (upd H p (.tup []))
section
variable {X : Cx}
theorem op_repS : OpR X (binaryOp .Mult) (rRepS X.K) := by
  intro pins s σ H x y v u Q I rx ry h
  obtain ⟨l, k, xs, rfl, rfl, hT, hk, h1, h2, q⟩ := h
  cases rx
  obtain ⟨t, rfl⟩ := ry
  obtain ⟨its, r, ⟨⟨cls, dd, data, sl⟩, ho, hc, n, hd⟩, hs⟩ := I.tuple hT
  simp only at hc hd
  subst hc hd
  have c0 : (decide (k < -(2 ^ 63)) || decide (k ≥ 2 ^ 63)) = false := by
    rw [decide_eq_false (by omega), decide_eq_false (by omega)] <;> rfl
  have c1 : (its.toArray.isEmpty || k == 1) = true := by
    rcases hk with rfl | rfl
    · cases r; rfl
    · rw [Bool.or_eq_true]; exact .inr rfl
  exact wpAny_binaryOp_repeat_ref (T := "tuple") (U := "int") (by decide) ⟨_, ho, rfl⟩ (fun s' => typeIs_int s' k t) noFill_tuple_mul F.fills_int_mul F.slot_int_rmul repeat_tuple F.slot_int_index.lookup
    (call_meets F.slot_int_rmul (typeIs_int s k t) F.entry_int_rmul (F.args_int_rmul_2 _ _) (int_rmul_tuple k t l its.toArray n dd sl)
      ⟨ho, rfl, ⟨_, ho, rfl⟩, call_meets F.slot_tuple_mul ⟨_, ho, rfl⟩ F.entry_tuple_mul (F.args_tuple_mul_2 _ _) (tmul_same l its.toArray n dd sl k t c0 c1) ⟨ho, ⟨.ref l, H, I, rfl, q⟩⟩⟩)
theorem op_repZ : OpR X (binaryOp .Mult) (rRepZ X.K) := by
  intro pins s σ H x y v u Q I rx ry h
  obtain ⟨l, k, xs, rfl, rfl, hT, hne, h1, h2, q⟩ := h
  cases rx
  obtain ⟨t, rfl⟩ := ry
  obtain ⟨its, r, ⟨⟨cls, dd, data, sl⟩, ho, hc, n, hd⟩, hs⟩ := I.tuple hT
  simp only at hc hd
  subst hc hd
  have hn : its ≠ [] := fun e => hne (by subst e; cases r; rfl)
  have hi : its.toArray.isEmpty = false := by
    cases its with
    | nil => exact absurd rfl hn
    | cons a b => rfl
  have c0 : (decide (k < -(2 ^ 63)) || decide (k ≥ 2 ^ 63)) = false := by
    rw [decide_eq_false (by omega), decide_eq_false (by omega)] <;> rfl
  have c1 : (its.toArray.isEmpty || k == 1) = false := by
    rw [hi, Bool.false_or]
    exact beq_eq_false_iff_ne.mpr (by omega)
  have c2 : (decide (k ≤ 0) || its.toArray.isEmpty) = true := by
    rw [Bool.or_eq_true]; exact .inl (decide_eq_true h2)
  refine wpAny_binaryOp_repeat_ref (T := "tuple") (U := "int") (by decide) ⟨_, ho, rfl⟩ (fun s' => typeIs_int s' k t) noFill_tuple_mul F.fills_int_mul F.slot_int_rmul repeat_tuple F.slot_int_index.lookup
    (call_meets F.slot_int_rmul (typeIs_int s k t) F.entry_int_rmul (F.args_int_rmul_2 _ _) (int_rmul_tuple k t l its.toArray n dd sl)
      ⟨ho, rfl, ⟨_, ho, rfl⟩, call_meets F.slot_tuple_mul ⟨_, ho, rfl⟩ F.entry_tuple_mul (F.args_tuple_mul_2 _ _) (tmul_none l its.toArray n dd sl k t c0 c1 c2) ⟨ho, ?_⟩⟩)
  refine ⟨.ref s.heap.objs.size, _, I.laid (t' := s.toks) (o := .tup []) (fun b ob q => Heap.get?_push_of_some _ q) (Nat.le_refl _) ?_, rfl, q _ (I.hok.fresh (Nat.le_refl _))⟩
  exact ⟨Nat.zero_le _, [], .nil, IsTup.new _ _⟩
end
end DL
namespace DL
open PySem PySem.Spec PyProof.Rows
open Sem (wp)
theorem wpAny_guards {α : Type} {M : Model} {A : Around} {f : Sem α} {Q : α → Shared → Prop} {E : Value → Shared → Prop} {s : Shared} (h : ∀ g, wpAny M { A with guards := some g } f Q E s) : wpAny M A f Q E s :=
  fun Γ p hΓ => h (Γ.code.guards ++ guardsOf Γ.below) Γ p ⟨hΓ.1, hΓ.2.1, hΓ.2.2.1, fun g e => by cases e; rfl, hΓ.2.2.2.2⟩
noncomputable def okT (t : Str) : Prop := ∀ c ∈ t.cps.toList, c < 1114112
theorem okT.append {a b : Str} (h : okT a) (k : okT b) : okT (a ++ b) := fun c hc => by
  have e : (a ++ b).cps.toList = a.cps.toList ++ b.cps.toList := Array.toList_append
  rw [e] at hc
  exact (List.mem_append.mp hc).elim (h c) (k c)
theorem okT.join {sep : Str} (hs : okT sep) : ∀ {ts : List Str}, (∀ t ∈ ts, okT t) → okT (Str.join sep ts)
  | [], _ => fun c hc => by cases hc
  | [x], h => h x List.mem_cons_self
  | x :: y :: r, h => ((h x List.mem_cons_self).append hs).append (okT.join hs fun t ht => h t (List.mem_cons_of_mem _ ht))
theorem okT.ofB {t : Str} (h : (t.cps.toList.all fun c => decide (c < 1114112)) = true) : okT t := fun c hc => of_decide_eq_true (List.all_eq_true.mp h c hc)
theorem okT.toB {t : Str} (h : okT t) : (t.cps.toList.all fun c => decide (c < 1114112)) = true := List.all_eq_true.mpr fun c hc => decide_eq_true (h c hc)
theorem okT.tup {ts : List Str} (h : ∀ t ∈ ts, okT t) : okT (tupleText ts) := by
  unfold tupleText
  refine okT.append (okT.append (okT.ofB (by decide +kernel)) (okT.join (okT.ofB (by decide +kernel)) h)) ?_
  split <;> exact okT.ofB (by decide +kernel)
mutual
noncomputable def shP : PyData → Bool
  | .int i => decide (0 ≤ i) && decide (i ≤ 1000)
  | .str s => decide (s.cps.toList ∈ shWords)
  | .tuple xs => shPs xs
  | _ => false
noncomputable def shPs : List PyData → Bool
  | [] => true
  | x :: xs => shP x && shPs xs
end
mutual
noncomputable def shN : PyData → Nat
  | .tuple xs => 5 + shNs xs
  | _ => 8
noncomputable def shNs : List PyData → Nat
  | [] => 0
  | x :: xs => shN x + 2 + shNs xs
end
noncomputable def isG (g : List Code) (a : Addr) : Bool := g.any fun c => tupGuardF (.ref a) (c, default)
theorem tupleText_len (ts : List Str) : (tupleText ts).length ≤ 5 + piled ts := by
  have e0 : (Str.ofString "(").length = 1 := by decide
  have e2 : ∀ b : Bool, (Str.ofString (if b then ",)" else ")")).length ≤ 2 := by decide
  unfold tupleText
  rw [strLen_append, strLen_append]
  have h2 := e2 (ts.length == 1)
  have e1 : (Str.join ", " ts).length ≤ piled ts := by
    cases ts with
    | nil => exact Nat.zero_le _
    | cons t r => have := join_length_add (t :: r) (by simp); omega
  have h0 : ("(" : Str).length = 1 := e0
  have h3 : ((if ts.length == 1 then ",)" else ")" : String) : Str).length ≤ 2 := h2
  omega
section
variable {prog : Program} {w : World} {h₀ : Heap} {g0 : List Code}
noncomputable def RG (prog : Program) (w : World) (g0 : List Code) (as : List Addr) (h₀ : Heap) (d : Nat) (x : Value) (t : Str) : Prop :=
  ∀ (base : Nat), base + t.length ≤ sizeLine → ∀ (A : Around) (g : List Code) (E : Value → Shared → Prop) (s : Shared) (Q : Str → Shared → Prop), A.guards = some (g ++ g0) → (∀ b ∈ as, Clear g b) → A.units + d < cLine → (∀ b o, h₀.get? b = some o → s.heap.get? b = some o) →
    (∀ tk, Q t { s with toks := tk }) → wpAny (model prog w) A (pyReprUnder base x) Q E s
theorem RG.of_is {x : Value} {t : Str} (h : ReprIs prog w x t) (as : List Addr) (d : Nat) : RG prog w g0 as h₀ d x t :=
  fun base hb A _ E s Q _ _ _ _ hQ => h base hb A E s Q hQ
theorem RG.more {as as' : List Addr} {d d' : Nat} {x : Value} {t : Str} (h : RG prog w g0 as h₀ d x t) (hsub : ∀ b ∈ as, b ∈ as') (hd : d ≤ d') : RG prog w g0 as' h₀ d' x t :=
  fun base hz A g E s Q hg hcl hu hk hQ => h base hz A g E s Q hg (fun b hb => hcl b (hsub b hb)) (by omega) hk hQ
inductive RGA (prog : Program) (w : World) (g0 : List Code) (as : List Addr) (h₀ : Heap) (d : Nat) : List Value → List Str → Prop
  | nil : RGA prog w g0 as h₀ d [] []
  | cons {x : Value} {t : Str} {l : List Value} {ts : List Str} : RG prog w g0 as h₀ d x t → RGA prog w g0 as h₀ d l ts → RGA prog w g0 as h₀ d (x :: l) (t :: ts)
theorem RGA.length_eq {as : List Addr} {d : Nat} : ∀ {l : List Value} {ts : List Str}, RGA prog w g0 as h₀ d l ts → ts.length = l.length
  | _, _, .nil => rfl
  | _, _, .cons _ h => by simp [h.length_eq]
theorem RGA.more {as as' : List Addr} {d d' : Nat} (hsub : ∀ b ∈ as, b ∈ as') (hd : d ≤ d') : ∀ {l : List Value} {ts : List Str}, RGA prog w g0 as h₀ d l ts → RGA prog w g0 as' h₀ d' l ts
  | _, _, .nil => .nil
  | _, _, .cons h t => .cons (h.more hsub hd) (t.more hsub hd)
theorem fold_rg {A : Around} {E : Value → Shared → Prop} {as : List Addr} {d : Nat} {g : List Code} (hg : A.guards = some (g ++ g0)) (hcl : ∀ b ∈ as, Clear g b) (hu : A.units + d < cLine) :
    ∀ (l : List Value) (ts : List Str) (acc : Array Str) (n : Nat) (s : Shared) (Q : (Array Str × Nat) → Shared → Prop), RGA prog w g0 as h₀ d l ts → n + piled ts ≤ sizeLine →
    (∀ b o, h₀.get? b = some o → s.heap.get? b = some o) → (∀ tk, Q ⟨acc ++ ts.toArray, n + piled ts⟩ { s with toks := tk }) →
    wpAny (model prog w) A (forIn l (⟨acc, n⟩ : (Array Str × Nat)) tupBody) Q E s := by
  intro l
  induction l with
  | nil =>
    intro ts acc n s Q hT _ _ h
    cases hT
    have h0 := h s.toks
    simp only [List.forIn_nil]
    exact wpAny_pure (by simpa [piled] using h0)
  | cons x l ih =>
    intro ts acc n s Q hT hn hk0 h
    cases hT with
    | cons hx hl =>
      rename_i t ts'
      rw [piled_cons] at hn
      rw [List.forIn_cons]
      refine wpAny_bind (wpAny_bind (hx (n + 1) (by omega) _ _ _ _ _ hg hcl hu hk0 fun tk => wpAny_pure ?_))
      refine ih ts' (acc.push t) (n + (t.length + 2)) _ Q hl (by omega) hk0 fun tk' => ?_
      have h1 := h tk'
      have e : n + piled (t :: ts') = n + (t.length + 2) + piled ts' := by rw [piled_cons]; omega
      rw [e] at h1
      simpa using h1
noncomputable def TupG (prog : Program) (w : World) (g0 : List Code) (a : Addr) (bs : List Addr) (h₀ : Heap) (d : Nat) (items : List Value) (t : Str) : Prop :=
  (isG g0 a = true ∧ t = "(...)") ∨ (isG g0 a = false ∧ ∃ as ts, bs = a :: as ∧ a ∉ as ∧ RGA prog w g0 as h₀ d items ts ∧ t = tupleText ts)
theorem own_tupG {bs : List Addr} {d : Nat} {a : Addr} {o : Obj} {items : Array Value} {n : Nat} {t : Str}
    (ha : h₀.get? a = some o) (hd : o.data = .seq items n) (hT : TupG prog w g0 a bs h₀ d items.toList t)
    {A : Around} {g : List Code} {s : Shared} {R : Result → Shared → Prop} {base : Nat} {id : String} {rest : List Value}
    (hcg : (Code.builtin id ⟨.ref a :: rest, []⟩).isGuard = true) (hcu : (A.under (.builtin id ⟨.ref a :: rest, []⟩)).units = A.units + 1)
    (hg : A.guards = some (g ++ g0)) (hcl : ∀ b ∈ bs, Clear g b) (hu : A.units + (d + 1) < cLine) (hk0 : ∀ b o, h₀.get? b = some o → s.heap.get? b = some o)
    (hR : ∀ u tk, R (.ok (.ret (.str t u))) { s with toks := tk })
    (hsz : base + t.length ≤ sizeLine) :
    wpOwn (model prog w) A (.builtin id ⟨.ref a :: rest, []⟩) (Builtin.tupleReprAt base ⟨[.ref a], []⟩) (fun fin s' => match fin with | .done f => R (.ok f) s' | .again c' => c'.quiet = true ∧ codeAny (model prog w) A c' R s') (fun e s' => R (.error e) s') s := by
  rw [tuple_repr_tree, tupleReprUnderWay_eq]
  refine wpOwn_bind (wpOwn_stackTailAny hg (tupGuardF_off _) (tupGuardF_pos _) ?_)
  rcases hT with ⟨h1, rfl⟩ | ⟨h1, as, ts, rfl, hna, hT, rfl⟩
  · have hn : ((g ++ g0).any fun c => tupGuardF (.ref a) (c, default)) = true := by
      rw [List.any_append, show (g0.any fun c => tupGuardF (.ref a) (c, default)) = true from h1, Bool.or_true]
    rw [hn]
    refine wpOwn_of_wpAny ?_
    show wpAny _ _ (do rule "tuple.repr.in-itself"; retStr "(...)") _ _ s
    refine wpAny_bind (wpAny_rule ?_)
    unfold retStr
    exact wpAny_bind (wpAny_mkStr (wpAny_pure (hR _ _)) (by decide))
  · have hca : Clear g a := hcl a (.head _)
    have hlen : ts.length = items.size := by simpa using hT.length_eq
    have hp := piled_le_tupleText ts
    have hsz0 : (tupleText ts).length ≤ sizeLine := by omega
    have hn : ((g ++ g0).any fun c => tupGuardF (.ref a) (c, default)) = false := by
      rw [List.any_append, show (g0.any fun c => tupGuardF (.ref a) (c, default)) = false from h1, Bool.or_false, List.any_eq_false]
      intro c hcm
      rw [tupGuardF_of_clear hca c hcm]
      exact Bool.false_ne_true
    rw [hn]
    refine wpOwn_of_wpAny ?_
    show wpAny _ _ (tupleReprRest base (.ref a)) _ _ s
    unfold tupleReprRest Builtin.Tuple.tupleItemsOf
    refine wpAny_bind (wpAny_bind (wpAny_seqItems (hk0 _ _ ha) hd (wpAny_pure ?_)))
    rw [← Array.forIn_toList]
    refine wpAny_bind (fold_rg (g := _ :: g) (guards_under_guard hcg hg) (fun b hb => (hcl b (.tail _ hb)).cons (a := a) fun e => hna (e ▸ hb)) (by rw [hcu]; omega) _ ts _ _ _ _ hT (by omega) hk0 fun tk => ?_)
    refine wpAny_bind (wpAny_mkStr (wpAny_pure ?_) (by simpa [tupleText, hlen] using hsz0))
    have h1 := hR tk (tk + 1)
    simpa [tupleText, hlen] using h1
theorem call_tupG {bs : List Addr} {d : Nat} {a : Addr} {o : Obj} {items : Array Value} {n : Nat} {t : Str}
    (ha : h₀.get? a = some o) (hc : o.cls = .type "tuple") (hd : o.data = .seq items n) (hT : TupG prog w g0 a bs h₀ d items.toList t)
    {A : Around} {g : List Code} {E : Value → Shared → Prop} {s : Shared} {Q : Value → Shared → Prop}
    (hg : A.guards = some (g ++ g0)) (hcl : ∀ b ∈ bs, Clear g b) (hu : A.units + (d + 1) < cLine) (hk0 : ∀ b o, h₀.get? b = some o → s.heap.get? b = some o)
    (hQ : ∀ u tk, Q (.str t u) { s with toks := tk }) (hsz : t.length ≤ sizeLine) :
    wpAny (model prog w) A (call (.builtin "tuple.__repr__") [.ref a]) Q E s :=
  wpAny_call (codeAny_call_builtin_own (Code.quiet_builtin _ (by decide +kernel)) F.entry_tuple_repr (F.slot_tuple_repr.check _ _ _ _ _ _ _ _ ⟨o, hk0 _ _ ha, hc⟩ (F.args_tuple_repr_1 _)
    (own_tupG (base := 0) (R := callEnd Q E) ha hd hT (isGuard_tuple_repr _) (units_under_tuple_repr _ _) hg hcl hu hk0 hQ (by omega))))
theorem RG.tuple {bs : List Addr} {d : Nat} {a : Addr} {o : Obj} {items : Array Value} {n : Nat} {t : Str}
    (ha : h₀.get? a = some o) (hc : o.cls = .type "tuple") (hd : o.data = .seq items n) (hT : TupG prog w g0 a bs h₀ d items.toList t) : RG prog w g0 bs h₀ (d + 1) (.ref a) t := by
  intro base hb A g E s Q hg hcl hu hk0 hQ
  refine wpAny_pyReprUnder_ref (by omega) ?_
  refine wpAny_pyReprObjUnder_twin (twin := "tuple.__repr__.under") ⟨o, hk0 _ _ ha, hc⟩ F.slot_tuple_repr rfl (by omega) ?_
  refine call_twin_own (F.quiet_tuple_repr_under _) F.entry_tuple_repr_under F.check_tuple_repr_under ⟨o, hk0 _ _ ha, hc⟩ F.slot_tuple_repr (F.args_tuple_repr_1 _) ?_
  exact own_tupG (R := callEnd _ E) ha hd hT (isGuard_tuple_repr_under _) (units_under_tuple_repr_under _ _) hg hcl hu hk0 (fun u tk => ⟨⟨_, _, rfl⟩, _, _, rfl, hQ tk⟩) hb
theorem int_text : ∀ n : Fin 1001, (toString ((n.val : Nat) : Int) : String).length ≤ 4 ∧ ((Str.ofString (toString ((n.val : Nat) : Int))).length ≤ 8 ∧ ((Str.ofString (toString ((n.val : Nat) : Int))).cps.toList.all fun c => decide (c < 1114112)) = true) := by
  decide +kernel
theorem word_text : ∀ s ∈ shWords, (reprText ⟨s.toArray⟩).length ≤ 8 ∧ ((reprText ⟨s.toArray⟩).cps.toList.all fun c => decide (c < 1114112)) = true := by
  decide +kernel
mutual
theorem rg_reads : ∀ {v : Value} {d : PyData} {as : List Addr}, Reads h₀ v d as → shP d = true → shN d ≤ sizeLine → ∃ t bs, ReadAtMost h₀ d.depth bs ∧ (∀ prog w, RG prog w g0 bs h₀ d.depth v t) ∧ okT t ∧ t.length ≤ shN d
  | _, _, _, .none, h, _ => by cases h
  | _, _, _, .bool b, h, _ => by cases h
  | _, _, _, .int i t, h, _ => by
    have h : (decide (0 ≤ i) && decide (i ≤ 1000)) = true := h
    rw [Bool.and_eq_true, decide_eq_true_iff, decide_eq_true_iff] at h
    obtain ⟨n, rfl⟩ := Int.eq_ofNat_of_zero_le h.1
    obtain ⟨_, h2, h3⟩ := int_text ⟨n, by omega⟩
    refine ⟨_, [], (fun _ h => nomatch h), fun prog w => RG.of_is (ReprIs.int t ?_) _ _, okT.ofB h3, h2⟩
    exact Nat.lt_of_le_of_lt (Nat.log2_le_self _) (by omega)
  | _, _, _, .str x t, h, _ => by
    have h : decide (x.cps.toList ∈ shWords) = true := h
    obtain ⟨h2, h3⟩ := word_text _ (of_decide_eq_true h)
    have e : (⟨x.cps.toList.toArray⟩ : Str) = x := by cases x; rfl
    rw [e] at h2 h3
    exact ⟨_, [], (fun _ h => nomatch h), fun prog w => RG.of_is (ReprIs.str x t (Nat.le_trans h2 (by decide))) _ _, okT.ofB h3, h2⟩
  | _, _, _, .list .., h, _ => by cases h
  | _, _, _, .dict .., h, _ => by cases h
  | _, _, _, .tuple (a := a) (o := o) (vs := vs) (n := n) (xs := xs) h1 h2 h3 h4, h, hz => by
    have hz : 5 + shNs xs ≤ sizeLine := hz
    obtain ⟨ts, bs, hb, hk, ho, hl⟩ := rgs_reads h4 h (by omega)
    have r : Reads h₀ (.ref a) (.tuple xs) _ := .tuple h1 h2 h3 h4
    have hna : a ∉ bs := not_mem_of_deeper r (by simp only [PyData.depth]; omega) hb
    cases hG : isG g0 a with
    | true => exact ⟨"(...)", [], (fun _ h => nomatch h), fun prog w => by simp only [PyData.depth]; exact RG.tuple h1 h2 h3 (.inl ⟨hG, rfl⟩), okT.ofB (by decide +kernel), by show 5 ≤ 5 + shNs xs; omega⟩
    | false =>
      refine ⟨tupleText ts, a :: bs, ReadAtMost.cons r (by simp only [PyData.depth]; omega) hb, fun prog w => ?_, okT.tup ho, ?_⟩
      · simp only [PyData.depth]
        exact RG.tuple h1 h2 h3 (.inr ⟨hG, bs, ts, rfl, hna, hk prog w, rfl⟩)
      · have := tupleText_len ts
        show _ ≤ 5 + shNs xs
        omega
theorem rgs_reads : ∀ {vs : List Value} {ds : List PyData} {as : List Addr}, ReadsAll h₀ vs ds as → shPs ds = true → shNs ds ≤ sizeLine →
    ∃ ts bs, ReadAtMost h₀ (PyData.depthAll ds) bs ∧ (∀ prog w, RGA prog w g0 bs h₀ (PyData.depthAll ds) vs ts) ∧ (∀ t ∈ ts, okT t) ∧ piled ts ≤ shNs ds
  | _, _, _, .nil, _, _ => ⟨[], [], (fun _ h => nomatch h), fun _ _ => .nil, (fun _ h => nomatch h), Nat.zero_le _⟩
  | _, _, _, .cons (d := d) (ds := ds) r rs, h, hz => by
    have h : (shP d && shPs ds) = true := h
    rw [Bool.and_eq_true] at h
    have hz : shN d + 2 + shNs ds ≤ sizeLine := hz
    obtain ⟨t, b1, hb1, k1, o1, l1⟩ := rg_reads r h.1 (by omega)
    obtain ⟨ts, b2, hb2, k2, o2, l2⟩ := rgs_reads rs h.2 (by omega)
    refine ⟨t :: ts, b1 ++ b2, ?_, fun prog w => ?_, List.forall_mem_cons.mpr ⟨o1, o2⟩, ?_⟩
    · intro b hm
      simp only [PyData.depthAll]
      rcases List.mem_append.mp hm with hm | hm
      · obtain ⟨d', as', r', hd'⟩ := hb1 b hm
        exact ⟨d', as', r', Nat.le_trans hd' (Nat.le_max_left _ _)⟩
      · obtain ⟨d', as', r', hd'⟩ := hb2 b hm
        exact ⟨d', as', r', Nat.le_trans hd' (Nat.le_max_right _ _)⟩
    · simp only [PyData.depthAll]
      exact .cons ((k1 prog w).more (fun b hb => List.mem_append_left _ hb) (Nat.le_max_left _ _)) ((k2 prog w).more (fun b hb => List.mem_append_right _ hb) (Nat.le_max_right _ _))
    · rw [piled_cons]
      show _ ≤ shN d + 2 + shNs ds
      omega
end
theorem str_tup {a : Addr} {xs : List PyData} {as : List Addr} {A : Around} {E : Value → Shared → Prop} {s : Shared} {Q : Value → Shared → Prop} (r : Reads h₀ (.ref a) (.tuple xs) as) (hs : shPs xs = true) (hz : 5 + shNs xs ≤ sizeLine) (hu : A.units + (PyData.depthAll xs + 5) < cLine)
    (hk0 : ∀ b o, h₀.get? b = some o → s.heap.get? b = some o) (hQ : ∀ t, okT t → ∀ u tk, Q (.str t u) { s with toks := tk }) : wpAny (model prog w) A (call (.type "str") [.ref a]) Q E s := by
  refine wpAny_guards fun g => ?_
  cases r with
  | tuple h1 h2 h3 h4 =>
    rename_i o vs n
    obtain ⟨ts, bs, hb, hk, ho, hl⟩ := rgs_reads (g0 := g) h4 hs (by omega)
    have r : Reads h₀ (.ref a) (.tuple xs) _ := .tuple h1 h2 h3 h4
    have hna : a ∉ bs := not_mem_of_deeper r (by simp only [PyData.depth]; omega) hb
    obtain ⟨t, bs', hT, ot, lt⟩ : ∃ t bs', (∀ prog w, TupG prog w g a bs' h₀ (PyData.depthAll xs) vs.toList t) ∧ okT t ∧ t.length ≤ 5 + shNs xs := by
      cases hG : isG g a with
      | true => exact ⟨"(...)", [], fun prog w => .inl ⟨hG, rfl⟩, okT.ofB (by decide +kernel), by show 5 ≤ 5 + shNs xs; omega⟩
      | false => exact ⟨tupleText ts, a :: bs, fun prog w => .inr ⟨hG, bs, ts, rfl, hna, hk prog w, rfl⟩, okT.tup ho, Nat.le_trans (tupleText_len ts) (by omega)⟩
    exact callType_new F.called_str (by decide) (F.typeCall_str_1 _) (F.newCall_str_1 _) (fun obj => F.args_object_init_2 obj _) F.entry_str_new
      (meets_str_new (S := fun A' R s' => A'.guards = some g ∧ A'.units + (PyData.depthAll xs + 4) < cLine ∧ (∀ b o, h₀.get? b = some o → s'.heap.get? b = some o) ∧
          ∀ u tk, R (.ok (.ret (.str t u))) { s' with toks := tk })
        fun prog' w' A' R s' h => wpAny_strOf_slot rfl (by show A'.units + 1 + 1 < cLine; have := h.2.1; omega) ⟨o, h.2.2.1 _ _ h1, h2⟩ F.slot_tuple_str F.slot_tuple_repr
          (call_tupG (g := []) h1 h2 h3 (hT prog' w') h.1 (fun b _ => Clear.nil b) (by show A'.units + 1 + 1 + (PyData.depthAll xs + 1) < cLine; have := h.2.1; omega) h.2.2.1 (fun u tk => ⟨_, _, rfl, h.2.2.2 u tk⟩) (by omega)))
      ⟨rfl, by show A.units + 1 + (PyData.depthAll xs + 4) < cLine; omega, hk0, fun u tk => ⟨typeIs_str _ _ _, hQ t ot u tk⟩⟩
end
end DL
namespace DL
open PySem L2 PySem.Spec PyProof.Rows
noncomputable def KVof (K : Frag) (cx : Cls2) (S : Hs) (H : Hp) (Q : VK) : VK2 := fun z S' => ∀ v H', Rel K cx S' H' → Keep S S' H H' → RepR K H H' S' z v → Q v H'
noncomputable def r1of (K : Frag) (cx : Cls2) (f : Vx → Hs → VK2 → Prop) : V → Hp → VK → Prop := fun x H Q => ∃ S a, Rel K cx S H ∧ RepX K H S a x ∧ f a S (KVof K cx S H Q)
noncomputable def r2of (K : Frag) (cx : Cls2) (f : Vx → Vx → Hs → VK2 → Prop) : R2 := fun x y H Q => ∃ S a b, Rel K cx S H ∧ RepX K H S a x ∧ RepX K H S b y ∧ f a b S (KVof K cx S H Q)
section
variable {K : Frag} {cx : Cls2} {S S' : Hs} {H H' H0 : Hp} {Q : VK}
theorem fin {z : Vx} {v : V} (k : KVof K cx S H Q z S) (hr : Rel K cx S H) (r : RepX K H S z v) (n : own z = false) : Q v H := k v H hr .refl ⟨r, fun e => by rw [n] at e; cases e⟩
theorem fin_d {x : D} {v : V} (k : KVof K cx S H Q (.d x) S) (hr : Rel K cx S H) (r : RepV K H x v) : Q v H := fin k hr r rfl
theorem fin_bl {b : Bool} (k : KVof K cx S H Q (.d (.bl b)) S) (hr : Rel K cx S H) : Q (.bl b) H := fin_d k hr rfl
theorem fin_int {i : Int} (k : KVof K cx S H Q (.d (.int i)) S) (hr : Rel K cx S H) : Q (.int i) H := fin_d k hr rfl
theorem fin_tup {ds : List D} {vs : List V} (k : KVof K cx S H Q (.d (.tup ds)) S) (hr : Rel K cx S H) (r : RepL K H ds vs) (p : Addr) (n : H p = none) : Q (.ref p) (upd H p (.tup vs)) :=
  k _ _ (hr.upd0 (hr.free n) (tupS_new n)) (.new n) ⟨⟨p, vs, rfl, SqT.of upd_same, r.keep (tupS_new n)⟩, fun e => by cases e⟩
theorem fin_vl {ds : List D} {vs : List V} (k : KVof K cx S H Q (.vl ds) S) (hr : Rel K cx S H) (r : RepL K H ds vs) (p : Addr) (n : H p = none) : Q (.ref p) (upd H p (.lst vs)) :=
  k _ _ (hr.upd0 (hr.free n) (tupS_new n)) (.new n) ⟨⟨p, vs, rfl, upd_same, hr.free n, r.keep (tupS_new n)⟩, fun _ => ⟨p, rfl, n⟩⟩
noncomputable def CnR (K : Frag) (cx : Cls2) (H : Hp) : Cn → V → Prop
  | .l ds, v => ∃ a vs, v = .ref a ∧ H a = some (.lst vs) ∧ RepL K H ds vs
  | .f ds, v => ∃ a vs, v = .ref a ∧ SqL K H a vs ∧ RepL K H ds vs
  | .t ds, v => ∃ a vs, v = .ref a ∧ SqT K H a vs ∧ RepL K H ds vs
  | .s cs, v => v = .str (sv cs)
  | .k kvs, v => ∃ a ks, v = .ref a ∧ H a = some (.dK ks) ∧ DicR K H kvs ks
  | .kn kvs, v => ∃ a xs, v = .ref a ∧ H a = some (dnO cx.w a xs) ∧ DnOk K H a kvs xs
  | .kfn kvs, v => ∃ a xs o, v = .ref a ∧ H a = some (.frz o (dnO cx.w a xs)) ∧ DnOk K H a kvs xs
  | .kf kvs, v => ∃ a ks o, v = .ref a ∧ H a = some (.frz o (.dK ks)) ∧ DicR K H kvs ks
  | .i c fs, v => ∃ a, v = .ref a ∧ RelO K cx H a (.ins c fs)
  | .e _, _ => False
theorem view_of {x : Vx} {v : V} {P : Cn → Prop} (hr : Rel K cx S H) (r : RepX K H S x v) (w : view x S P) : ∃ c, P c ∧ CnR K cx H c v := by
  cases x with
  | d y =>
    cases y with
    | ref a =>
      obtain ⟨o, e, q⟩ := w
      refine ⟨_, q, ?_⟩
      cases r
      have z := hr a o e
      cases o with
      | lst ds => obtain ⟨vs, h, r⟩ := z; exact ⟨a, vs, rfl, h, r⟩
      | dic kvs => obtain ⟨ks, h, r⟩ := z; exact ⟨a, ks, rfl, h, r⟩
      | fdc kvs y => obtain ⟨h, o, ks, e1, r⟩ := z; subst e1; exact ⟨a, ks, o, rfl, h, r⟩
      | dn kvs => obtain ⟨xs, h, r⟩ := z; exact ⟨a, xs, rfl, h, r⟩
      | fdn kvs y xs => obtain ⟨h, o, e1, r⟩ := z; subst e1; exact ⟨a, xs, o, rfl, h, r⟩
      | ins c fs => exact ⟨a, rfl, z⟩
    | str s => exact ⟨_, w, r⟩
    | tup ds => exact ⟨_, w, r⟩
    | xt ds => obtain ⟨a, vs, rfl, h, r⟩ := r; exact ⟨_, w, a, vs, rfl, h.t, r⟩
    | non => exact w.elim
    | bl b => exact w.elim
    | int i => exact w.elim
  | vl ds => obtain ⟨a, vs, rfl, h, n, r⟩ := r; exact ⟨_, w, a, vs, rfl, h, r⟩
  | fz ds => obtain ⟨a, vs, rfl, h, r⟩ := r; exact ⟨_, w, a, vs, rfl, fz_sql h, r⟩
  | bw ds => obtain ⟨a, vs, rfl, h, n, r⟩ := r; exact ⟨_, w, a, vs, rfl, h, r⟩
  | vd ds => obtain ⟨a, vs, rfl, h, n, r⟩ := r; exact ⟨_, w, a, vs, rfl, h, r⟩
  | bd ds => obtain ⟨a, vs, rfl, h, n, r⟩ := r; exact ⟨_, w, a, vs, rfl, h, r⟩
  | st ds => exact r.elim
end
section
variable {X : Cx} {cx : Cls2}
theorem rI_elim {C : Int → Int → Prop} {g : Int → Int → V} {f : Int → Int → VK2 → Hs → Prop} {gd : Int → Int → D} (hg : ∀ i j H, RepV X.K H (gd i j) (g i j)) (hf : ∀ i j Q S, f i j Q S → C i j ∧ Q (.d (gd i j)) S) {x y : V} {H : Hp} {Q : VK}
    (w : r2of X.K cx (intD f) x y H Q) : rI C g x y H Q := by
  obtain ⟨S, a, b, hr, ra, rb, w⟩ := w
  unfold intD at w
  split at w
  · cases ra
    cases rb
    obtain ⟨h1, h2⟩ := hf _ _ _ _ w
    exact ⟨_, _, rfl, rfl, h1, fin_d h2 hr (hg _ _ _)⟩
  · exact w.elim
theorem rI0_elim {g : Int → Int → V} {f : Int → Int → VK2 → Hs → Prop} {gd : Int → Int → D} (hg : ∀ i j H, RepV X.K H (gd i j) (g i j)) (hf : ∀ i j Q S, f i j Q S → Q (.d (gd i j)) S) {x y : V} {H : Hp} {Q : VK}
    (w : r2of X.K cx (intD f) x y H Q) : rI0 g x y H Q := by
  obtain ⟨i, j, h1, h2, _, h3⟩ := rI_elim (C := fun _ _ => True) hg (fun i j Q S h => ⟨trivial, hf i j Q S h⟩) w
  exact ⟨i, j, h1, h2, h3⟩
theorem opImp {f : Value → Value → Sem Value} {r r' : R2} (h : OpR X f r) (i : ∀ x y H Q, r' x y H Q → r x y H Q) : OpR X f r' := fun pins s σ H x y v u Q I rx ry w => h pins s σ H x y v u Q I rx ry (i _ _ _ _ w)
theorem op2_sub : OpR X (binaryOp .Sub) (r2of X.K cx (op2D .sub)) := opImp op_sub fun x y H Q w => rI0_elim (gd := fun i j => .int (i - j)) (fun _ _ _ => rfl) (fun _ _ _ _ h => h) w
theorem op2_mod : OpR X (binaryOp .Mod) (r2of X.K cx (op2D .mod)) := opImp op_mod fun x y H Q w => rI_elim (gd := fun i j => .int (i % j)) (fun _ _ _ => rfl) (fun _ _ _ _ h => h) w
theorem op2_fdiv : OpR X (binaryOp .FloorDiv) (r2of X.K cx (op2D .fdiv)) := opImp op_fdivW fun x y H Q w => rI_elim (gd := fun i j => .int (i / j)) (fun _ _ _ => rfl) (fun _ _ _ _ h => h) w
theorem op2_pow : OpR X (binaryOp .Pow) (r2of X.K cx (op2D .pow)) := opImp op_pow fun x y H Q w => rI_elim (gd := fun i j => .int (i ^ j.toNat)) (fun _ _ _ => rfl) (fun _ _ _ _ h => h) w
theorem op2_lt : OpR X (compareOp .Lt) (r2of X.K cx (op2D .lt)) := opImp op_lt fun x y H Q w => rI0_elim (gd := fun i j => .bl (decide (i < j))) (fun _ _ _ => rfl) (fun _ _ _ _ h => h) w
theorem op2_le : OpR X (compareOp .LtE) (r2of X.K cx (op2D .le)) := opImp op_le fun x y H Q w => rI0_elim (gd := fun i j => .bl (decide (i ≤ j))) (fun _ _ _ => rfl) (fun _ _ _ _ h => h) w
theorem op2_gt : OpR X (compareOp .Gt) (r2of X.K cx (op2D .gt)) := opImp op_gt fun x y H Q w => rI0_elim (gd := fun i j => .bl (decide (j < i))) (fun _ _ _ => rfl) (fun _ _ _ _ h => h) w
theorem op2_ge : OpR X (compareOp .GtE) (r2of X.K cx (op2D .ge)) := opImp op_ge fun x y H Q w => rI0_elim (gd := fun i j => .bl (decide (j ≤ i))) (fun _ _ _ => rfl) (fun _ _ _ _ h => h) w
theorem sv_append (a b : List Nat) : sv a ++ sv b = sv (a ++ b) := by
  show (⟨a.toArray ++ b.toArray⟩ : Str) = ⟨(a ++ b).toArray⟩
  simp
theorem sv_length (a : List Nat) : (sv a).length = a.length := by
  show a.toArray.size = a.length
  simp
theorem op2_add : OpR X (binaryOp .Add) (r2of X.K cx (op2D .add)) := by
  intro pins s σ H x y v u Q I rx ry w
  obtain ⟨S, a, b, hr, ra, rb, w⟩ := w
  have w : addD a b S (KVof X.K cx S H Q) := w
  unfold addD at w
  split at w
  · cases ra
    cases rb
    exact op_add pins s σ H _ _ v u Q I rx ry ⟨_, _, rfl, rfl, fin_int w hr⟩
  · cases ra
    cases rb
    refine op_add_str pins s σ H _ _ v u Q I rx ry ⟨_, _, rfl, rfl, by rw [sv_length, sv_length]; exact w.1, ?_⟩
    rw [sv_append]
    exact fin_d w.2 hr rfl
  · rename_i S as bs Q'
    obtain ⟨p, vs, rfl, hp, r1⟩ := ra
    obtain ⟨q, us, rfl, hq, r2⟩ := rb
    refine op_catA pins s σ H _ _ v u Q I rx ry ⟨p, q, vs, us, rfl, rfl, hp, hq, by rw [← r1.length, ← r2.length]; exact w.1, fun e => ?_, fun _ e => ?_, fun _ _ => fin_tup w.2 hr (r1.append r2)⟩
    · subst e
      have h := r1.length
      have h0 : as = [] := List.length_eq_zero_iff.mp h
      subst h0
      exact fin_d w.2 hr ⟨q, us, rfl, hq, r2⟩
    · subst e
      have h := r2.length
      have h0 : bs = [] := List.length_eq_zero_iff.mp h
      subst h0
      refine fin_d w.2 hr ⟨p, vs, rfl, hp, ?_⟩
      rw [List.append_nil]
      exact r1
  · obtain ⟨c, w, hc⟩ := view_of hr ra w
    obtain ⟨c', w, hc'⟩ := view_of hr rb w
    cases c <;> cases c' <;> first | exact w.elim | skip
    obtain ⟨p, vs, rfl, hp, r1⟩ := hc
    obtain ⟨q, us, rfl, hq, r2⟩ := hc'
    exact op_cat pins s σ H _ _ v u Q I rx ry ⟨p, q, vs, us, rfl, rfl, hp, hq, by rw [← r1.length, ← r2.length]; exact w.1, fin_vl w.2 hr (r1.append r2)⟩
theorem op2_mul : OpR X (binaryOp .Mult) (r2of X.K cx (op2D .mul)) := by
  intro pins s σ H x y v u Q I rx ry w
  obtain ⟨S, a, b, hr, ra, rb, w⟩ := w
  have w : mulD a b S (KVof X.K cx S H Q) := w
  unfold mulD at w
  split at w
  · cases ra
    cases rb
    rcases w.1 with h | h
    · exact op_mul pins s σ H _ _ v u Q I rx ry ⟨_, _, rfl, rfl, h, fin_int w.2 hr⟩
    · exact op_mulW pins s σ H _ _ v u Q I rx ry ⟨_, _, rfl, rfl, h, fin_int w.2 hr⟩
  · obtain ⟨p, vs, rfl, hp, r1⟩ := ra
    cases rb
    obtain ⟨h1, w⟩ := w
    rename_i _ ds k _
    have two : k = 1 ∨ k ≤ 0 ∨ 2 ≤ k := by omega
    have emp : vs = [] → ds = [] := fun e => List.length_eq_zero_iff.mp (by rw [r1.length, e]; rfl)
    by_cases e0 : vs = []
    · have e1 := emp e0
      subst e1
      have er : repD ([] : List DL.D) k.toNat = [] := by unfold repD; simp
      rw [er] at w
      exact op_repS pins s σ H _ _ v u Q I rx ry ⟨p, _, vs, rfl, rfl, hp, .inl e0, h1.1, h1.2.1, w _ _ hr .refl ⟨⟨p, vs, rfl, hp, r1⟩, fun e => by cases e⟩⟩
    · rcases two with rfl | hz | h2
      · have er : repD ds (1 : Int).toNat = ds := by unfold repD; simp
        rw [er] at w
        exact op_repS pins s σ H _ _ v u Q I rx ry ⟨p, _, vs, rfl, rfl, hp, .inr rfl, h1.1, h1.2.1, w _ _ hr .refl ⟨⟨p, vs, rfl, hp, r1⟩, fun e => by cases e⟩⟩
      · have er : repD ds k.toNat = [] := by
          have : k.toNat = 0 := by omega
          unfold repD; rw [this]; simp
        rw [er] at w
        exact op_repZ pins s σ H _ _ v u Q I rx ry ⟨p, _, vs, rfl, rfl, hp, e0, h1.1, hz, fin_tup w hr rfl⟩
      · exact op_repT pins s σ H _ _ v u Q I rx ry ⟨p, _, vs, rfl, rfl, hp, e0, h2, h1.2.1, by rw [← r1.length]; exact h1.2.2, fin_tup w hr (r1.rep _)⟩
  · obtain ⟨h1, w⟩ := w
    obtain ⟨c, w, hc⟩ := view_of hr ra w
    cases c <;> first | exact w.elim | skip
    cases rb
    obtain ⟨p, vs, rfl, hp, r1⟩ := hc
    exact op_rep pins s σ H _ _ v u Q I rx ry ⟨p, _, vs, rfl, rfl, hp, by omega, by have := w.1; omega, by rw [← r1.length]; exact w.2.1, fin_vl w.2.2 hr (r1.rep _)⟩
  · exact w.elim
end
mutual
noncomputable def toP : D → PyData
  | .non => .none
  | .bl b => .bool b
  | .int i => .int i
  | .str s => .str (sv s)
  | .ref _ => .none
  | .xt _ => .none
  | .tup ds => .tuple (toPs ds)
noncomputable def toPs : List D → List PyData
  | [] => []
  | d :: ds => toP d :: toPs ds
end
theorem sv_inj {a b : List Nat} : (sv a == sv b) = decide (a = b) := by
  by_cases h : a = b
  · subst h; simp
  · have h' : ¬ sv a = sv b := fun e => h (by have := congrArg (fun z : Str => z.cps.toList) e; simpa using this)
    rw [decide_eq_false h]
    exact beq_eq_false_iff_ne.mpr h'
mutual
theorem eqB_eqv : ∀ (a b : D) (n m : Nat), pl n a = true → pl m b = true → eqB a b = PyData.eqv (toP a) (toP b)
  | .non, b, _, _, _, h => by cases b <;> first | rfl | (simp [pl] at h)
  | .bl x, b, _, _, _, h => by
    cases b <;> first | rfl | (simp [pl] at h; done)
  | .int i, b, _, _, _, h => by
    cases b <;> first | rfl | (simp [pl] at h; done)
  | .str x, b, _, _, _, h => by
    cases b <;> first | rfl | (simp [pl] at h; done) | skip
    show decide _ = (sv x == sv _)
    rw [sv_inj]
  | .ref a, _, _, _, h, _ => by simp [pl] at h
  | .xt a, _, _, _, h, _ => by simp [pl] at h
  | .tup ds, b, n, m, h, h' => by
    cases b <;> first | rfl | (simp [pl] at h'; done) | skip
    cases n with
    | zero => simp [pl] at h
    | succ n =>
      cases m with
      | zero => simp [pl] at h'
      | succ m =>
        show eqBs _ _ = PyData.eqvAll _ _
        exact eqBs_eqv ds _ n m (by simpa [pl] using h) (by simpa [pl] using h')
theorem eqBs_eqv : ∀ (a b : List D) (n m : Nat), pls n a = true → pls m b = true → eqBs a b = PyData.eqvAll (toPs a) (toPs b)
  | [], [], _, _, _, _ => rfl
  | [], _ :: _, _, _, _, _ => rfl
  | _ :: _, [], _, _, _, _ => rfl
  | x :: xs, y :: ys, n, m, h, h' => by
    simp only [pls, Bool.and_eq_true] at h h'
    show (eqB x y && eqBs xs ys) = (PyData.eqv (toP x) (toP y) && PyData.eqvAll (toPs xs) (toPs ys))
    rw [eqB_eqv x y n m h.1 h'.1, eqBs_eqv xs ys n m h.2 h'.2]
end
mutual
theorem pl_lay : ∀ (n : Nat) (a : D), pl n a = true → (toP a).canLay0 = true ∧ (toP a).depth ≤ n
  | n, .non, _ => ⟨rfl, Nat.zero_le _⟩
  | n, .bl _, _ => ⟨rfl, Nat.zero_le _⟩
  | n, .int _, _ => ⟨rfl, Nat.zero_le _⟩
  | n, .str s, h => by
    refine ⟨?_, Nat.zero_le _⟩
    have h : (s.all fun c => decide (c < 1114112)) = true := by simpa [pl] using h
    have e : (toP (.str s)).canLay0 = (s.toArray.all fun c => decide (c < 0x110000)) := rfl
    rw [e]
    simpa using h
  | n, .ref _, h => by simp [pl] at h
  | n, .xt _, h => by simp [pl] at h
  | 0, .tup ds, h => by simp [pl] at h
  | n + 1, .tup ds, h => by
    obtain ⟨h1, h2⟩ := pls_lay n ds (by simpa [pl] using h)
    exact ⟨h1, Nat.succ_le_succ h2⟩
theorem pls_lay : ∀ (n : Nat) (a : List D), pls n a = true → PyData.canLayAll0 (toPs a) = true ∧ PyData.depthAll (toPs a) ≤ n
  | n, [], _ => ⟨rfl, Nat.zero_le _⟩
  | n, d :: ds, h => by
    simp only [pls, Bool.and_eq_true] at h
    obtain ⟨h1, h2⟩ := pl_lay n d h.1
    obtain ⟨h3, h4⟩ := pls_lay n ds h.2
    refine ⟨?_, ?_⟩
    · show ((toP d).canLay0 && PyData.canLayAll0 (toPs ds)) = true
      rw [h1, h3]; rfl
    · show max _ _ ≤ n
      omega
end
theorem pln_shaped {a : D} (h : pln a = true) : SeqAt.shaped (toP a) = true := by
  obtain ⟨h1, h2⟩ := pl_lay 60 a h
  unfold SeqAt.shaped
  rw [h1, decide_eq_true (by omega)]; rfl
theorem plns_shaped {a : List D} (h : plns a = true) : SeqAt.shaped (.list (toPs a)) = true := by
  obtain ⟨h1, h2⟩ := pls_lay 60 a h
  unfold SeqAt.shaped
  have e : (PyData.list (toPs a)).canLay0 = true := h1
  have e' : (PyData.list (toPs a)).depth = PyData.depthAll (toPs a) + 1 := rfl
  rw [e, e', decide_eq_true (by omega)]; rfl
mutual
theorem RepV.dp {K : Frag} {H : Hp} : ∀ (n : Nat) (d : D) (v : V), pl n d = true → RepV K H d v → Dp K H v (toP d)
  | _, .non, _, _, r => by cases r; exact .non
  | _, .bl b, _, _, r => by cases r; exact .bl b
  | _, .int b, _, _, r => by cases r; exact .int b
  | _, .str b, _, _, r => by cases r; exact .str _
  | _, .ref a, _, h, _ => by simp [pl] at h
  | 0, .tup ds, _, h, _ => by simp [pl] at h
  | n + 1, .tup ds, _, h, ⟨t, vs, e, q, r⟩ => by
    subst e
    exact .tup q (RepL.dp n ds vs (by simpa [pl] using h) r)
theorem RepL.dp {K : Frag} {H : Hp} : ∀ (n : Nat) (ds : List D) (vs : List V), pls n ds = true → RepL K H ds vs → DpAll K H vs (toPs ds)
  | _, [], _, _, r => by cases r; exact .nil
  | n, d :: ds, _, h, ⟨v, vr, e, r, rr⟩ => by
    subst e
    simp only [pls, Bool.and_eq_true] at h
    exact .cons (RepV.dp n d v h.1 r) (RepL.dp n ds vr h.2 rr)
end
section
variable {X : Cx} {cx : Cls2}
noncomputable def rEE (K : Frag) (f : Bool → Bool) : R2 := fun x y H Q => ∃ p q vs, x = .ref p ∧ y = .ref q ∧ SqL K H p vs ∧ SqL K H q [] ∧ Q (.bl (f vs.isEmpty)) H
theorem op_eqE (hu : X.A.units + 64 < cLine) : OpR X (compareOp .Eq) (rEE X.K id) := by
  intro pins s σ H x y v u Q I rx ry h
  obtain ⟨p, q, vs, rfl, rfl, hp, hq, k⟩ := h
  cases rx
  cases ry
  obtain ⟨as, va, la, _⟩ := I.list hp
  obtain ⟨bs, vb, lb, _⟩ := I.list hq
  cases vb
  cases va with
  | nil => exact SeqAt.eq_listAt (e := fun _ => true) la.isList lb.isList rfl (by omega) (fun j h => absurd h (Nat.not_lt_zero _)) ⟨.bl _, H, I, rfl, k⟩
  | cons r rr => exact SeqAt.eq_list_lengthsAt la.isList lb.isList rfl (by omega) ⟨.bl _, H, I, rfl, k⟩
theorem op_neE (hu : X.A.units + 64 < cLine) : OpR X (compareOp .NotEq) (rEE X.K not) := by
  intro pins s σ H x y v u Q I rx ry h
  obtain ⟨p, q, vs, rfl, rfl, hp, hq, k⟩ := h
  cases rx
  cases ry
  obtain ⟨as, va, la, _⟩ := I.list hp
  obtain ⟨bs, vb, lb, _⟩ := I.list hq
  cases vb
  cases va with
  | nil => exact SeqAt.RcNeAt.lists (e := fun _ => true) la.isList lb.isList rfl (by omega) (fun j h => absurd h (Nat.not_lt_zero _)) _ _ _ _ ⟨.bl _, H, I, rfl, k⟩
  | cons r rr => exact SeqAt.RcNeAt.lists_lengths la.isList lb.isList rfl (by omega) _ _ _ _ ⟨.bl _, H, I, rfl, k⟩
noncomputable def rEK (f : Bool → Bool) : R2 := fun x y H Q => ∃ p q ks, x = .ref p ∧ y = .ref q ∧ H p = some (.dK ks) ∧ H q = some (.dK []) ∧ Q (.bl (f ks.isEmpty)) H
theorem op_eqK (hu : X.A.units + 64 < cLine) : OpR X (compareOp .Eq) (rEK id) := by
  intro pins s σ H x y v u Q I rx ry h
  obtain ⟨a, b, ks, rfl, rfl, ea, eb, q⟩ := h
  obtain rfl : v = Value.ref a := rx
  obtain rfl : u = Value.ref b := ry
  obtain ⟨_, ya, va, ra, da⟩ := (show ObjOk X.prog X.w H s.heap a (.dK ks) from I.hok a _ ea)
  obtain ⟨_, yb, vb, rb, db⟩ := (show ObjOk X.prog X.w H s.heap b (.dK []) from I.hok b _ eb)
  have hb : vb = [] := by cases rb; rfl
  subst hb
  have hl : va.length = ks.length := ra.length.symm
  refine PySem.W.keq_eq (knd := mixKind X.prog X.w) (r := true) ya yb da db (by omega) (fun e => ?_) ?_
  · have : va = [] := List.length_eq_zero_iff.mp e
    subst this
    exact .nil
  · refine L2.fin_bl I q ?_
    cases ks <;> simp at hl <;> simp [hl]
theorem op_neK (hu : X.A.units + 64 < cLine) : OpR X (compareOp .NotEq) (rEK not) := by
  intro pins s σ H x y v u Q I rx ry h
  obtain ⟨a, b, ks, rfl, rfl, ea, eb, q⟩ := h
  obtain rfl : v = Value.ref a := rx
  obtain rfl : u = Value.ref b := ry
  obtain ⟨_, ya, va, ra, da⟩ := (show ObjOk X.prog X.w H s.heap a (.dK ks) from I.hok a _ ea)
  obtain ⟨_, yb, vb, rb, db⟩ := (show ObjOk X.prog X.w H s.heap b (.dK []) from I.hok b _ eb)
  have hb : vb = [] := by cases rb; rfl
  subst hb
  have hl : va.length = ks.length := ra.length.symm
  refine PySem.W.keq_ne (knd := mixKind X.prog X.w) (r := true) ya yb da db (by omega) (fun e => ?_) ?_
  · have : va = [] := List.length_eq_zero_iff.mp e
    subst this
    exact .nil
  · refine L2.fin_bl I q ?_
    cases ks <;> simp at hl <;> simp [hl]
theorem DicR.emp {K : Frag} {H : Hp} {kvs : List (D × D)} {ks : List (Key × V)} (r : DicR K H kvs ks) : ks.isEmpty = kvs.isEmpty := by cases r <;> rfl
theorem opOr {f : Value → Value → Sem Value} {r r' : R2} (h : OpR X f r) (h' : OpR X f r') : OpR X f (fun x y H Q => r x y H Q ∨ r' x y H Q) := fun pins s σ H x y v u Q I rx ry w =>
  w.elim (h pins s σ H x y v u Q I rx ry) (h' pins s σ H x y v u Q I rx ry)
theorem eqBs_nil (a : List D) : eqBs a [] = a.isEmpty := by cases a <;> rfl
theorem RepL.emp {K : Frag} {H : Hp} : ∀ {ds : List D} {vs : List V}, RepL K H ds vs → vs.isEmpty = ds.isEmpty
  | [], _, r => by cases r; rfl
  | _ :: _, _, ⟨_, _, e, _⟩ => by subst e; rfl
theorem eqD_rd {a b : Vx} {x y : V} {S : Hs} {H : Hp} {P : Bool → Prop} (hr : Rel X.K cx S H) (ra : RepX X.K H S a x) (rb : RepX X.K H S b y) (w : eqD a b S P) :
    (∃ d e, Dp X.K H x d ∧ Dp X.K H y e ∧ SeqAt.shaped d = true ∧ SeqAt.shaped e = true ∧ P (PyData.eqv d e)) ∨ (∃ p q vs, x = .ref p ∧ y = .ref q ∧ SqL X.K H p vs ∧ SqL X.K H q [] ∧ P vs.isEmpty) ∨ ∃ p q ks, x = .ref p ∧ y = .ref q ∧ H p = some (.dK ks) ∧ H q = some (.dK []) ∧ P ks.isEmpty := by
  have lists : (view a S fun c => view b S fun c' => eqC c c' P) → (∃ d e, Dp X.K H x d ∧ Dp X.K H y e ∧ SeqAt.shaped d = true ∧ SeqAt.shaped e = true ∧ P (PyData.eqv d e)) ∨ (∃ p q vs, x = .ref p ∧ y = .ref q ∧ SqL X.K H p vs ∧ SqL X.K H q [] ∧ P vs.isEmpty) ∨ ∃ p q ks, x = .ref p ∧ y = .ref q ∧ H p = some (.dK ks) ∧ H q = some (.dK []) ∧ P ks.isEmpty := fun w => by
    obtain ⟨c, w, hc⟩ := view_of hr ra w
    obtain ⟨c', w, hc'⟩ := view_of hr rb w
    cases c <;> cases c' <;> first | exact w.elim | skip
    rotate_left
    · obtain ⟨p, ks, rfl, hp, r1⟩ := hc
      obtain ⟨q, us, rfl, hq, r2⟩ := hc'
      obtain ⟨w1, w2⟩ := w
      subst w1
      cases r2
      exact .inr (.inr ⟨p, q, ks, rfl, rfl, hp, hq, by rw [DicR.emp r1]; exact w2⟩)
    obtain ⟨p, vs, rfl, hp, r1⟩ := hc
    obtain ⟨q, us, rfl, hq, r2⟩ := hc'
    obtain ⟨w1, w2⟩ := w
    rcases w1 with e | w1
    · subst e
      cases r2
      refine .inr (.inl ⟨p, q, vs, rfl, rfl, SqL.of hp, SqL.of hq, ?_⟩)
      rw [RepL.emp r1, ← eqBs_nil]
      exact w2
    refine .inl ⟨_, _, .lst (SqL.of hp) (RepL.dp 60 _ _ w1.1 r1), .lst (SqL.of hq) (RepL.dp 60 _ _ w1.2 r2), plns_shaped w1.1, plns_shaped w1.2, ?_⟩
    have e := eqBs_eqv _ _ 60 60 w1.1 w1.2
    show P (PyData.eqvAll _ _)
    rw [← e]
    exact w2
  unfold eqD at w
  split at w
  · exact lists w
  · exact w.elim
  · refine .inl ⟨_, _, RepV.dp 60 _ _ w.1 ra, RepV.dp 60 _ _ w.2.1 rb, pln_shaped w.1, pln_shaped w.2.1, ?_⟩
    rw [← eqB_eqv _ _ 60 60 w.1 w.2.1]
    exact w.2.2
  · exact lists w
mutual
theorem resP_dp {K : Frag} {cx : Cls2} {S : Hs} {H : Hp} (hr : Rel K cx S H) : ∀ (n : Nat) (d : D) (v : V) (p : PyData), resP S n d = some p → RepV K H d v → Dp K H v p
  | n, .non, v, p, e, r => by unfold resP at e; cases e; cases r; exact .non
  | n, .bl b, v, p, e, r => by unfold resP at e; cases e; cases r; exact .bl b
  | n, .int i, v, p, e, r => by unfold resP at e; cases e; cases r; exact .int i
  | n, .str s, v, p, e, r => by unfold resP at e; cases e; cases r; exact .str _
  | 0, .tup ds, v, p, e, _ => by unfold resP at e; cases e
  | 0, .ref a, v, p, e, _ => by unfold resP at e; cases e
  | 0, .xt ds, v, p, e, _ => by unfold resP at e; cases e
  | n + 1, .xt ds, v, p, e, r => by
    unfold resP at e
    obtain ⟨ps, e1, rfl⟩ := Option.map_eq_some_iff.mp e
    obtain ⟨t, vs, rfl, q, r⟩ := r
    exact .tup q.t (resPs_dp hr n ds vs ps e1 r)
  | n + 1, .tup ds, v, p, e, r => by
    unfold resP at e
    obtain ⟨ps, e1, rfl⟩ := Option.map_eq_some_iff.mp e
    obtain ⟨t, vs, rfl, q, r⟩ := r
    exact .tup q (resPs_dp hr n ds vs ps e1 r)
  | n + 1, .ref a, v, p, e, r => by
    unfold resP at e
    cases r
    split at e
    · rename_i ds ha
      obtain ⟨ps, e1, rfl⟩ := Option.map_eq_some_iff.mp e
      obtain ⟨vs, hv, rv⟩ := hr a _ ha
      exact .lst (SqL.of hv) (resPs_dp hr n ds vs ps e1 rv)
    · cases e
  termination_by n d => (n, sizeOf d)
theorem resPs_dp {K : Frag} {cx : Cls2} {S : Hs} {H : Hp} (hr : Rel K cx S H) : ∀ (n : Nat) (ds : List D) (vs : List V) (ps : List PyData), resPs S n ds = some ps → RepL K H ds vs → DpAll K H vs ps
  | n, [], vs, ps, e, r => by unfold resPs at e; cases e; cases r; exact .nil
  | n, d :: ds, vs, ps, e, r => by
    unfold resPs at e
    obtain ⟨v, vr, rfl, r, rr⟩ := r
    split at e
    · rename_i p ps' e1 e2
      cases e
      exact .cons (resP_dp hr n d v p e1 r) (resPs_dp hr n ds vr ps' e2 rr)
    · cases e
  termination_by n ds => (n, sizeOf ds)
end
theorem resX_dp {S : Hs} {H : Hp} {a : Vx} {x : V} {p : PyData} (hr : Rel X.K cx S H) (ra : RepX X.K H S a x) (e : resX S a = some p) : Dp X.K H x p := by
  cases a with
  | d y => exact resP_dp hr 50 y x p e ra
  | vl ds =>
    obtain ⟨ps, e1, rfl⟩ := Option.map_eq_some_iff.mp e
    obtain ⟨l, vs, rfl, h, _, r⟩ := ra
    exact .lst (SqL.of h) (resPs_dp hr 49 ds vs ps e1 r)
  | bw ds =>
    obtain ⟨ps, e1, rfl⟩ := Option.map_eq_some_iff.mp e
    obtain ⟨l, vs, rfl, h, _, r⟩ := ra
    exact .lst (SqL.of h) (resPs_dp hr 49 ds vs ps e1 r)
  | _ => cases e
theorem eqH_rd {a b : Vx} {x y : V} {S : Hs} {H : Hp} {P : Bool → Prop} (hr : Rel X.K cx S H) (ra : RepX X.K H S a x) (rb : RepX X.K H S b y) (w : eqH a b S P) :
    ∃ d e, Dp X.K H x d ∧ Dp X.K H y e ∧ SeqAt.shaped d = true ∧ SeqAt.shaped e = true ∧ P (PyData.eqv d e) := let ⟨p, q, h1, h2, h3, h4, k⟩ := w; ⟨p, q, resX_dp hr ra h1, resX_dp hr rb h2, h3, h4, k⟩
theorem op2_eqh (hu : X.A.units + 64 < cLine) : OpR X (compareOp .Eq) (r2of X.K cx (op2D .eqh)) := opImp (op_eqD hu) fun x y H Q w => by
  obtain ⟨S, a, b, hr, ra, rb, w⟩ := w
  obtain ⟨d, e, h1, h2, h3, h4, q⟩ := eqH_rd (P := fun k => KVof X.K cx S H Q (.d (.bl k)) S) hr ra rb w
  exact ⟨d, e, h1, h2, h3, h4, fin_bl q hr⟩
theorem op2_neh (hu : X.A.units + 64 < cLine) : OpR X (compareOp .NotEq) (r2of X.K cx (op2D .neh)) := opImp (op_neD hu) fun x y H Q w => by
  obtain ⟨S, a, b, hr, ra, rb, w⟩ := w
  obtain ⟨d, e, h1, h2, h3, h4, q⟩ := eqH_rd (P := fun k => KVof X.K cx S H Q (.d (.bl (!k))) S) hr ra rb w
  exact ⟨d, e, h1, h2, h3, h4, fin_bl q hr⟩
theorem op2_eq (hu : X.A.units + 64 < cLine) : OpR X (compareOp .Eq) (r2of X.K cx (op2D .eq)) := opImp (opOr (op_eqD hu) (opOr (op_eqE hu) (op_eqK hu))) fun x y H Q w => by
  obtain ⟨S, a, b, hr, ra, rb, w⟩ := w
  rcases eqD_rd (P := fun k => KVof X.K cx S H Q (.d (.bl (k))) S) hr ra rb w with ⟨d, e, h1, h2, h3, h4, q⟩ | ⟨p, q, vs, h1, h2, h3, h4, q'⟩ | ⟨p, q, vs, h1, h2, h3, h4, q'⟩
  · exact .inl ⟨d, e, h1, h2, h3, h4, fin_bl q hr⟩
  · exact .inr (.inl ⟨p, q, vs, h1, h2, h3, h4, fin_bl q' hr⟩)
  · exact .inr (.inr ⟨p, q, vs, h1, h2, h3, h4, fin_bl q' hr⟩)
theorem op2_ne (hu : X.A.units + 64 < cLine) : OpR X (compareOp .NotEq) (r2of X.K cx (op2D .ne)) := opImp (opOr (op_neD hu) (opOr (op_neE hu) (op_neK hu))) fun x y H Q w => by
  obtain ⟨S, a, b, hr, ra, rb, w⟩ := w
  rcases eqD_rd (P := fun k => KVof X.K cx S H Q (.d (.bl (!k))) S) hr ra rb w with ⟨d, e, h1, h2, h3, h4, q⟩ | ⟨p, q, vs, h1, h2, h3, h4, q'⟩ | ⟨p, q, vs, h1, h2, h3, h4, q'⟩
  · exact .inl ⟨d, e, h1, h2, h3, h4, fin_bl q hr⟩
  · exact .inr (.inl ⟨p, q, vs, h1, h2, h3, h4, fin_bl q' hr⟩)
  · exact .inr (.inr ⟨p, q, vs, h1, h2, h3, h4, fin_bl q' hr⟩)
theorem isN_rep {K : Frag} {H : Hp} {S : Hs} {a : Vx} {x : V} (r : RepX K H S a x) : (x = .non) ↔ a = .d .non := by
  constructor
  · rintro rfl
    cases a with
    | d y =>
      cases y with
      | non => rfl
      | bl b => cases r
      | int b => cases r
      | str b => cases r
      | ref b => cases r
      | tup b => obtain ⟨_, _, e, _⟩ := r; cases e
      | xt b => obtain ⟨_, _, e, _⟩ := r; cases e
    | vl _ => obtain ⟨_, _, e, _⟩ := r; cases e
    | bw _ => obtain ⟨_, _, e, _⟩ := r; cases e
    | fz _ => obtain ⟨_, _, e, _⟩ := r; cases e
    | vd _ => obtain ⟨_, _, e, _⟩ := r; cases e
    | bd _ => obtain ⟨_, _, e, _⟩ := r; cases e
    | st _ => exact r.elim
  · rintro rfl
    exact r
theorem isD_non {a : Vx} {b : Bool} (h : isD a (.d .non) = some b) {K : Frag} {H : Hp} {S : Hs} {x : V} (r : RepX K H S a x) : decide (x = .non) = b := by
  by_cases e : a = .d .non
  · subst e
    cases h
    exact decide_eq_true r
  · have : isD a (.d .non) = some false := by
      cases a with
      | d y => cases y <;> first | rfl | exact absurd rfl e
      | _ => rfl
    rw [this] at h
    cases h
    exact decide_eq_false fun z => e ((isN_rep r).mp z)
theorem is_cases {a b : Vx} {k : Bool} (h : isD a b = some k) : b = .d .non ∨ ∃ p q, a = .d (.bl p) ∧ b = .d (.bl q) ∧ k = decide (p = q) := by
  unfold isD at h
  split at h
  · exact .inl rfl
  · exact .inl rfl
  · cases h; exact .inr ⟨_, _, rfl, rfl, rfl⟩
  · cases h
theorem op2_is : OpR X (compareOp .Is) (r2of X.K cx (op2D .is)) := by
  intro pins s σ H x y v u Q I rx ry w
  obtain ⟨S, a, b, hr, ra, rb, k, e, w⟩ := w
  rcases is_cases e with rfl | ⟨p, q, rfl, rfl, rfl⟩
  · refine op_isN pins s σ H x y v u Q I rx ry ⟨rb, ?_⟩
    rw [isD_non e ra]
    exact fin_bl w hr
  · cases ra
    cases rb
    exact op_isBl pins s σ H _ _ v u Q I rx ry ⟨p, q, rfl, rfl, fin_bl w hr⟩
theorem op2_isnt : OpR X (compareOp .IsNot) (r2of X.K cx (op2D .isnt)) := by
  intro pins s σ H x y v u Q I rx ry w
  obtain ⟨S, a, b, hr, ra, rb, k, e, w⟩ := w
  rcases is_cases e with rfl | ⟨p, q, rfl, rfl, rfl⟩
  · refine op_notN pins s σ H x y v u Q I rx ry ⟨rb, ?_⟩
    rw [isD_non e ra]
    exact fin_bl w hr
  · cases ra
    cases rb
    exact op_notBl pins s σ H _ _ v u Q I rx ry ⟨p, q, rfl, rfl, fin_bl w hr⟩
end
mutual
theorem nk_depth : ∀ (n : Nat) (d : D), pl n d = true → (nkD d).depth ≤ n
  | n, .non, _ => by simp [nkD, NestedKey.depth]
  | n, .bl b, _ => by simp [nkD, NestedKey.depth]
  | n, .int i, _ => by simp [nkD, NestedKey.depth]
  | n, .str s, _ => by simp [nkD, NestedKey.depth]
  | n, .ref a, h => by cases n <;> simp [pl] at h
  | 0, .tup ds, h => by simp [pl] at h
  | n + 1, .tup ds, h => by
    have := nks_depth n ds (by simpa [pl] using h)
    simp only [nkD, NestedKey.depth]; omega
theorem nks_depth : ∀ (n : Nat) (ds : List D), pls n ds = true → NestedKey.depthAll (nkDs ds) ≤ n
  | n, [], _ => by simp [nkDs, NestedKey.depthAll]
  | n, d :: ds, h => by
    simp only [pls, Bool.and_eq_true] at h
    have h1 := nk_depth n d h.1
    have h2 := nks_depth n ds h.2
    simp only [nkDs, NestedKey.depthAll]; omega
end
theorem nk_num {i j : Int} : decide ((NestedKey.num i) = .num j) = decide (i = j) := by
  by_cases e : i = j
  · subst e; simp
  · rw [decide_eq_false e, decide_eq_false fun z => e (NestedKey.num.inj z)]
theorem nk_text {i j : List Nat} : decide ((NestedKey.text (sv i)) = .text (sv j)) = decide (i = j) := by
  by_cases e : i = j
  · subst e; simp
  · rw [decide_eq_false e, decide_eq_false fun z => e (by have := congrArg (fun z : Str => z.cps.toList) (NestedKey.text.inj z); simpa using this)]
mutual
theorem nk_eq : ∀ (n m : Nat) (a b : D), pl n a = true → pl m b = true → eqB a b = decide (nkD a = nkD b)
  | n, m, .non, b, _, hb => by cases b <;> first | rfl | (simp [nkD, eqB]; done) | (cases m <;> simp [pl] at hb)
  | n, m, .bl x, b, _, hb => by
    cases b with
    | bl y => show (x == y) = decide ((NestedKey.num _) = .num _); rw [nk_num]; cases x <;> cases y <;> rfl
    | int j => show decide _ = decide ((NestedKey.num _) = .num _); rw [nk_num]
    | ref a => cases m <;> simp [pl] at hb
    | _ => simp [nkD, eqB]
  | n, m, .int x, b, _, hb => by
    cases b with
    | bl y => show decide _ = decide ((NestedKey.num _) = .num _); rw [nk_num]
    | int j => show decide _ = decide ((NestedKey.num _) = .num _); rw [nk_num]
    | ref a => cases m <;> simp [pl] at hb
    | _ => simp [nkD, eqB]
  | n, m, .str x, b, _, hb => by
    cases b with
    | str y => show decide _ = decide ((NestedKey.text _) = .text _); rw [nk_text]
    | ref a => cases m <;> simp [pl] at hb
    | _ => simp [nkD, eqB]
  | n, m, .ref a, b, ha, _ => by cases n <;> simp [pl] at ha
  | 0, m, .tup as, b, ha, _ => by simp [pl] at ha
  | n + 1, m, .tup as, b, ha, hb => by
    cases b with
    | tup bs =>
      cases m with
      | zero => simp [pl] at hb
      | succ m =>
        have := nks_eq n m as bs (by simpa [pl] using ha) (by simpa [pl] using hb)
        show eqBs as bs = decide ((NestedKey.tup (nkDs as)) = .tup (nkDs bs))
        rw [this]
        by_cases e : nkDs as = nkDs bs
        · rw [decide_eq_true e, decide_eq_true (by rw [e])]
        · rw [decide_eq_false e, decide_eq_false fun z => e (NestedKey.tup.inj z)]
    | ref a => cases m <;> simp [pl] at hb
    | _ => simp [nkD, eqB]
theorem nks_eq : ∀ (n m : Nat) (a b : List D), pls n a = true → pls m b = true → eqBs a b = decide (nkDs a = nkDs b)
  | n, m, [], [], _, _ => rfl
  | n, m, [], y :: b, _, _ => by simp [nkDs, eqBs]
  | n, m, x :: a, [], _, _ => by simp [nkDs, eqBs]
  | n, m, x :: a, y :: b, ha, hb => by
    simp only [pls, Bool.and_eq_true] at ha hb
    have h1 := nk_eq n m x y ha.1 hb.1
    have h2 := nks_eq n m a b ha.2 hb.2
    show (eqB x y && eqBs a b) = decide (nkD x :: nkDs a = nkD y :: nkDs b)
    rw [h1, h2]
    by_cases e1 : nkD x = nkD y
    · by_cases e2 : nkDs a = nkDs b
      · rw [decide_eq_true e1, decide_eq_true e2, decide_eq_true (by rw [e1, e2])]; rfl
      · rw [decide_eq_true e1, decide_eq_false e2, decide_eq_false fun z => e2 (List.cons.inj z).2]; rfl
    · rw [decide_eq_false e1, decide_eq_false fun z => e1 (List.cons.inj z).1]; rfl
end
theorem keyN_pl {d : D} (h : keyN d = true) : ∃ ds, d = .tup ds ∧ pl 8 d = true := by
  cases d <;> first | exact ⟨_, rfl, h⟩ | cases h
theorem keyN_eq {a b : D} (ha : keyN a = true) (hb : keyN b = true) : eqB a b = decide (nkD a = nkD b) := by
  obtain ⟨_, _, h1⟩ := keyN_pl ha
  obtain ⟨_, _, h2⟩ := keyN_pl hb
  exact nk_eq 8 8 a b h1 h2
section
variable {X : Cx} {pins : List (Addr × Obj)} {σ : L2.St} {H : Hp} {s : Shared}
mutual
theorem rep_nested (I : Inv X pins σ H s) : ∀ (n : Nat) (d : D) (v : V) (u : Value), pl n d = true → RepV X.K H d v → RelV v u → NestedIs s.heap (nkD d) u
  | _, .non, _, u, _, r, ru => by cases r; cases ru; exact .none
  | _, .bl b, _, u, _, r, ru => by cases r; cases ru; exact .bool rfl
  | _, .int i, _, u, _, r, ru => by cases r; obtain ⟨t, rfl⟩ := ru; exact .int i t
  | _, .str x, _, u, _, r, ru => by cases r; obtain ⟨t, rfl⟩ := ru; exact .text _ t
  | n, .ref a, _, u, h, _, _ => by cases n <;> simp [pl] at h
  | 0, .tup ds, _, u, h, _, _ => by simp [pl] at h
  | n + 1, .tup ds, _, u, h, ⟨t, vs, e, q, r⟩, ru => by
    subst e
    cases ru
    obtain ⟨its, rv, ⟨o, ho, hc, m, hd⟩, _⟩ := I.tuple q
    exact .tup ho hc hd (reps_nested I n ds vs _ (by simpa [pl] using h) r rv)
theorem reps_nested (I : Inv X pins σ H s) : ∀ (n : Nat) (ds : List D) (vs : List V) (us : List Value), pls n ds = true → RepL X.K H ds vs → Vals vs us → NestedAll s.heap (nkDs ds) us
  | _, [], _, us, _, r, rv => by cases r; cases rv; exact .nil
  | n, d :: ds, _, us, h, ⟨v, vr, e, r, rr⟩, rv => by
    subst e
    cases rv with
    | cons r1 r2 =>
      simp only [pls, Bool.and_eq_true] at h
      exact .cons (rep_nested I n d v _ h.1 r r1) (reps_nested I n ds vr _ h.2 rr r2)
end
theorem key_is (I : Inv X pins σ H s) {d : D} {v : V} {u : Value} (h : keyN d = true) (r : RepV X.K H d v) (ru : RelV v u) : ∃ b, v = .ref b ∧ u = .ref b ∧ (nestedKind X.prog X.w).is s.heap (nkD d) b := by
  obtain ⟨ds, rfl, hp⟩ := keyN_pl h
  have hr := rep_nested I 8 _ v u hp r ru
  obtain ⟨t, vs, rfl, q, _⟩ := r
  cases ru
  exact ⟨t, rfl, rfl, hr, nk_depth 8 _ hp⟩
variable {w : World} {a : Addr} {kvs : List (D × D)} {xs : List NE}
theorem DnR.get {K : Frag} {x : D} (hx : keyN x = true) : ∀ {kvs : List (D × D)} {xs : List NE}, DnR K H kvs xs → (∀ y, dget kvs x = some y → ∃ p v, atKey xs (nkD x) = some p ∧ RelV v p.2 ∧ RepV K H y v) ∧ (dget kvs x = none → atKey xs (nkD x) = none)
  | _, _, .nil => ⟨(fun y e => by cases e), fun _ => rfl⟩
  | (k, y) :: r, (k', b, u) :: r', .cons h t => by
    obtain ⟨h1, h2, h3, v, h4, h5⟩ := h
    have ih := DnR.get hx t
    have h2 : k' = nkD k := h2
    have e : eqB k x = decide (nkD k = nkD x) := keyN_eq h1 hx
    by_cases q : nkD k = nkD x
    · rw [decide_eq_true q] at e
      have e1 : dget ((k, y) :: r) x = some y := by unfold dget; rw [e]
      have e2 : atKey ((k', b, u) :: r') (nkD x) = some (b, u) := by simp [atKey, List.find?_cons, h2, q]
      rw [e1, e2]
      exact ⟨fun z hz => ⟨_, v, rfl, h4, by cases hz; exact h5⟩, fun z => by cases z⟩
    · rw [decide_eq_false q] at e
      have e1 : dget ((k, y) :: r) x = dget r x := by show (match eqB k x with | true => some y | false => dget r x) = _; rw [e]
      have e2 : atKey ((k', b, u) :: r') (nkD x) = atKey r' (nkD x) := by simp [atKey, List.find?_cons, h2, q]
      rw [e1, e2]
      exact ih
theorem DnR.has {K : Frag} {x : D} (hx : keyN x = true) {kvs : List (D × D)} {xs : List NE} (r : DnR K H kvs xs) : dhas kvs x = (atKey xs (nkD x)).isSome := by
  unfold dhas
  cases e : dget kvs x with
  | none => rw [(r.get hx).2 e]; rfl
  | some y => obtain ⟨p, v, h, _⟩ := (r.get hx).1 y e; rw [h]; rfl
theorem DnR.put {K : Frag} {x y : D} {b : Addr} {v : V} {u : Value} (hx : keyN x = true) (rx : RepV K H x (.ref b)) (ry : RepV K H y v) (rv : RelV v u) {kvs : List (D × D)} {xs : List NE} (r : DnR K H kvs xs) : DnR K H (dput kvs x y) (storedH xs (nkD x) b u) := by
  have e := r.has hx
  unfold dput storedH
  rw [← e]
  cases dhas kvs x with
  | true =>
    rw [if_pos rfl]
    show DnR K H (kvs.map _) _
    clear e
    induction r with
    | nil => exact .nil
    | @cons p q l1 l2 h t ih =>
      obtain ⟨k, z⟩ := p
      obtain ⟨k', b', z'⟩ := q
      obtain ⟨h1, h2, h3, v', h4, h5⟩ := h
      have h2 : k' = nkD k := h2
      have e : eqB k x = decide (nkD k = nkD x) := keyN_eq h1 hx
      refine .cons ?_ ih
      by_cases q : nkD k = nkD x
      · have e1 : putAt (nkD x) u (k', b', z') = (k', b', u) := by unfold putAt; rw [if_pos (h2.trans q)]
        show DnE K H (match eqB k x with | true => (k, y) | false => (k, z)) (putAt (nkD x) u (k', b', z'))
        rw [e, decide_eq_true q, e1]
        exact ⟨h1, h2, h3, v, rv, ry⟩
      · have e1 : putAt (nkD x) u (k', b', z') = (k', b', z') := by unfold putAt; rw [if_neg fun z => q (h2.symm.trans z)]
        show DnE K H (match eqB k x with | true => (k, y) | false => (k, z)) (putAt (nkD x) u (k', b', z'))
        rw [e, decide_eq_false q, e1]
        exact ⟨h1, h2, h3, v', h4, h5⟩
  | false =>
    rw [if_neg (by simp)]
    show DnR K H (kvs ++ [(x, y)]) _
    exact Paired.snoc r ⟨hx, rfl, rx, v, rv, ry⟩
theorem DnR.length {K : Frag} {kvs : List (D × D)} {xs : List NE} (r : DnR K H kvs xs) : kvs.length = xs.length := Paired.length r
theorem stored_len {xs : List NE} {k : NestedKey} {b : Addr} {u : Value} : (storedH xs k b u).length ≤ xs.length + 1 := by
  unfold storedH
  split <;> simp
noncomputable def DnAt (w : World) (H : Hp) (a : Addr) (xs : List NE) : Prop := H a = some (dnO w a xs) ∨ ∃ o, H a = some (.frz o (dnO w a xs))
theorem dn_obj (I : Inv X pins σ H s) (h : DnAt X.w H a xs) : dnP X.w a xs s.heap := by
  rcases h with h | ⟨o, h⟩
  · exact (I.hok a _ h).1
  · exact (I.hok a _ h).2.1
theorem dn_of (I : Inv X pins σ H s) (h : DnAt X.w H a xs) (r : DnOk X.K H a kvs xs) : s.heap.DictOfH (nestedKind X.prog X.w) a xs := by
  obtain ⟨o, es, ep, h1, h2, h3, h4⟩ := dn_obj I h
  refine ⟨o, es, ep, h1, h2, h3, h4, fun x hx => ?_, r.nd⟩
  have : ∀ {kvs : List (D × D)} {xs : List NE}, DnR X.K H kvs xs → ∀ x ∈ xs, (nestedKind X.prog X.w).is s.heap x.1 x.2.1 := by
    intro kvs xs r
    induction r with
    | nil => intro x hx; cases hx
    | cons h _ ih =>
      intro x hx
      rcases List.mem_cons.mp hx with rfl | hx
      · obtain ⟨h1, h2, h3, _⟩ := h
        obtain ⟨b, e1, e2, h⟩ := key_is I h1 h3 (u := .ref x.2.1) rfl
        cases e1
        rw [h2]; exact h
      · exact ih x hx
  exact this r.r x hx
variable {A : Around} {E : Value → Shared → Prop} {u : Value} {v : V} {x y : D}
theorem dn_in {Q : Value → Shared → Prop} (hu : A.units + 60 < cLine) (I : Inv X pins σ H s) (h : DnAt X.w H a xs) (r : DnOk X.K H a kvs xs) (hx : keyN x = true) (rx : RepV X.K H x v) (ru : RelV v u) (q : ∀ s', Inv X pins σ H s' → Q (.bool (dhas kvs x)) s') :
    wpAny (model X.prog X.w) A (compareOp .In u (.ref a)) Q E s := by
  obtain ⟨b, rfl, rfl, hk⟩ := key_is I hx rx ru
  refine wpAny_in_heap (show A.units + 1 + 8 < cLine by omega) hk r.m (dn_of I h r) ?_
  rw [← r.r.has hx]
  exact q _ (I.tok _)
theorem dn_notIn {Q : Value → Shared → Prop} (hu : A.units + 60 < cLine) (I : Inv X pins σ H s) (h : DnAt X.w H a xs) (r : DnOk X.K H a kvs xs) (hx : keyN x = true) (rx : RepV X.K H x v) (ru : RelV v u) (q : ∀ s', Inv X pins σ H s' → Q (.bool (!dhas kvs x)) s') :
    wpAny (model X.prog X.w) A (compareOp .NotIn u (.ref a)) Q E s := by
  obtain ⟨b, rfl, rfl, hk⟩ := key_is I hx rx ru
  refine wpAny_notIn_heap (show A.units + 1 + 8 < cLine by omega) hk r.m (dn_of I h r) ?_
  rw [← r.r.has hx]
  exact q _ (I.tok _)
theorem dn_getItem {Q : Value → Shared → Prop} (hu : A.units + 60 < cLine) (I : Inv X pins σ H s) (h : DnAt X.w H a xs) (r : DnOk X.K H a kvs xs) (hx : keyN x = true) (rx : RepV X.K H x v) (ru : RelV v u) (e : dget kvs x = some y)
    (q : ∀ zv w' s', Inv X pins σ H s' → RelV zv w' → RepV X.K H y zv → Q w' s') : wpAny (model X.prog X.w) A (getItem (.ref a) u) Q E s := by
  obtain ⟨b, rfl, rfl, hk⟩ := key_is I hx rx ru
  obtain ⟨p, zv, h1, h2, h3⟩ := (r.r.get hx).1 y e
  exact wpAny_getItem_heap (show A.units + 1 + 8 < cLine by omega) hk (dn_of I h r) h1 (q zv _ _ (I.tok _) h2 h3)
theorem dn_typeIs (I : Inv X pins σ H s) (h : DnAt X.w H a xs) : s.TypeIs (.ref a) "dict" := by
  obtain ⟨o, es, ep, h1, h2, _⟩ := dn_obj I h
  exact ⟨o, h1, h2.1⟩
theorem dnP_ext {w : World} {a : Addr} {xs : List NE} : ∀ h1 h2 : Heap, dnP w a xs h1 → (∀ o, h1.get? a = some o → h2.get? a = some o) → dnP w a xs h2 := fun h1 h2 ⟨o, es, ep, e, r⟩ k => ⟨o, es, ep, k _ e, r⟩
theorem dn_okO {P : Program} {w : World} {H : Hp} {h : Heap} {a : Addr} {xs : List NE} (p : dnP w a xs h) : ObjOk P w H h a (dnO w a xs) := ⟨p, let ⟨o, _, _, e, _⟩ := p; ⟨o, e⟩, dnP_ext⟩
theorem dn_tups {K : Frag} {H : Hp} {w : World} {a : Addr} {xs : List NE} {h : HO} (hp : H a = some (dnO w a xs)) : TupS K H (upd H a h) := tupS_upd fun o e => by rw [hp] at e; cases e; rfl
theorem dn_setItem {Q : Unit → Shared → Prop} {uy : Value} {vy : V} (hu : A.units + 60 < cLine) (I : Inv X pins σ H s) (h : H a = some (dnO X.w a xs)) (r : DnOk X.K H a kvs xs) (hl : kvs.length < sizeLine) (hx : keyN x = true) (rx : RepV X.K H x v) (ru : RelV v u) (ry : RepV X.K H y vy) (ruy : RelV vy uy)
    (q : ∀ xs' s', Inv X pins σ (upd H a (dnO X.w a xs')) s' → DnOk X.K (upd H a (dnO X.w a xs')) a (dput kvs x y) xs' → Q () s') : wpAny (model X.prog X.w) A (setItem (.ref a) u uy) Q E s := by
  obtain ⟨b, rfl, rfl, hk⟩ := key_is I hx rx ru
  refine wpAny_setItem_heap (hsz := r.z) (show A.units + 1 + 8 < cLine by omega) hk (dn_of I (.inl h) r) fun h' dd hs => ?_
  obtain ⟨o, es, ep, h1, h2, h3, h4, _, h5⟩ := dd
  have p : dnP X.w a (storedH xs (nkD x) b uy) h' := ⟨o, es, ep, h1, h2, h3, h4⟩
  refine q _ _ (d_write I (by rw [h]; exact True.intro) hs ⟨o, h1⟩ (dn_okO p)) ?_
  refine DnOk.keep (dn_tups h) ⟨r.r.put hx rx ry ruy, h5, ?_, r.m⟩
  have := stored_len (xs := xs) (k := nkD x) (b := b) (u := uy)
  have := r.r.length
  omega
theorem pe_dn {pos : Pos} : PE X (.Dict [] [] pos) (fun _ H Q => ∀ p, H p = none → (p == sysModules) = false → Q (.ref p) (upd H p (dnO X.w p []))) := ⟨fun pins s σ H Q I h => by
  have hb : sysModules < s.heap.objs.size := Inv.big I
  exact wpAny_Dict_empty ⟨.ref s.heap.objs.size, _, I.laid (a := s.heap.objs.size) (o := dnO X.w s.heap.objs.size []) (t' := s.toks) (fun _ _ q => Heap.get?_push_of_some _ q) (Nat.le_refl _) (dn_okO ⟨_, #[], 0, Heap.get?_push_size _ rfl, ⟨rfl, rfl, rfl⟩, rfl, rfl⟩), rfl,
    h _ (I.hok.fresh (Nat.le_refl _)) (beq_eq_false_iff_ne.mpr (Nat.ne_of_gt hb))⟩⟩
end
noncomputable def keyK : D → Key
  | .int i => .inl i
  | .str s => .inr (sv s)
  | _ => .inl 0
theorem KeyR.of {d : D} {k : Key} (h : KeyR d k) : keyD d = true ∧ k = keyK d := by
  cases d <;> first | exact h.elim | exact ⟨rfl, h⟩
theorem keyR_mk {d : D} (h : keyD d = true) : KeyR d (keyK d) := by
  cases d <;> first | rfl | cases h
theorem eqB_key {a b : D} (h : keyD a = true) (h' : keyD b = true) : eqB a b = decide (keyK a = keyK b) := by
  cases a <;> first | cases h | skip
  · cases b <;> first | cases h' | skip
    · rename_i i j
      show decide (i = j) = decide ((Sum.inl i : Key) = Sum.inl j)
      by_cases e : i = j
      · subst e; simp
      · rw [decide_eq_false e, decide_eq_false fun z => e (Sum.inl.inj z)]
    · rename_i i j
      show false = decide ((Sum.inl i : Key) = Sum.inr _)
      exact (decide_eq_false fun z => by cases z).symm
  · cases b <;> first | cases h' | skip
    · rename_i i j
      show false = decide ((Sum.inr _ : Key) = Sum.inl j)
      exact (decide_eq_false fun z => by cases z).symm
    · rename_i i j
      show decide (i = j) = decide ((Sum.inr (sv i) : Key) = Sum.inr (sv j))
      by_cases e : i = j
      · subst e; simp
      · rw [decide_eq_false e, decide_eq_false fun z => e (by have := congrArg (fun z : Str => z.cps.toList) (Sum.inr.inj z); simpa using this)]
theorem key_rel {K : Frag} {H : Hp} {x : D} {v : V} (h : keyD x = true) (r : RepV K H x v) : v = kV (keyK x) := by
  cases x <;> first | (cases h; done) | exact r
section
variable {K : Frag} {H : Hp}
theorem DicR.get {x : D} (hx : keyD x = true) : ∀ {kvs : List (D × D)} {ks : List (Key × V)}, DicR K H kvs ks → (∀ y, dget kvs x = some y → ∃ v, valV ks (keyK x) = some v ∧ RepV K H y v) ∧ (dget kvs x = none → valV ks (keyK x) = none)
  | _, _, .nil => ⟨(fun y e => by cases e), fun _ => rfl⟩
  | (k, y) :: r, (k', v) :: r', .cons h t => by
    obtain ⟨hk, hv⟩ := h
    obtain ⟨h1, h2⟩ := KeyR.of hk
    have ih := DicR.get hx t
    have e : eqB k x = decide (keyK k = keyK x) := eqB_key h1 hx
    have h2 : k' = keyK k := h2
    by_cases q : keyK k = keyK x
    · rw [decide_eq_true q] at e
      have e1 : dget ((k, y) :: r) x = some y := by unfold dget; rw [e]
      have e2 : valV ((k', v) :: r') (keyK x) = some v := valV_pos (show k' = keyK x from h2.trans q)
      rw [e1, e2]
      exact ⟨fun z hz => ⟨v, rfl, by cases hz; exact hv⟩, fun z => by cases z⟩
    · rw [decide_eq_false q] at e
      have e1 : dget ((k, y) :: r) x = dget r x := by show (match eqB k x with | true => some y | false => dget r x) = _; rw [e]
      have e2 : valV ((k', v) :: r') (keyK x) = valV r' (keyK x) := valV_neg (show ¬ k' = keyK x from fun z => q (h2.symm.trans z))
      rw [e1, e2]
      exact ih
theorem DicR.has {x : D} (hx : keyD x = true) {kvs : List (D × D)} {ks : List (Key × V)} (r : DicR K H kvs ks) : dhas kvs x = (valV ks (keyK x)).isSome := by
  unfold dhas
  cases e : dget kvs x with
  | none => rw [(r.get hx).2 e]; rfl
  | some y => obtain ⟨v, h, _⟩ := (r.get hx).1 y e; rw [h]; rfl
theorem DicR.length {kvs : List (D × D)} {ks : List (Key × V)} (r : DicR K H kvs ks) : kvs.length = ks.length := Paired.length r
theorem DicR.put {x y : D} {v : V} (hx : keyD x = true) (ry : RepV K H y v) {kvs : List (D × D)} {ks : List (Key × V)} (r : DicR K H kvs ks) : DicR K H (dput kvs x y) (putK ks (keyK x) v) := by
  have e := r.has hx
  unfold dput putK
  rw [valV_any, ← e]
  cases dhas kvs x with
  | true =>
    rw [if_pos rfl]
    show DicR K H (kvs.map _) _
    clear e
    induction r with
    | nil => exact .nil
    | @cons p q l1 l2 h t ih =>
      obtain ⟨k, z⟩ := p
      obtain ⟨k', z'⟩ := q
      obtain ⟨h1, h2⟩ := KeyR.of h.1
      have h2 : k' = keyK k := h2
      have e : eqB k x = decide (keyK k = keyK x) := eqB_key h1 hx
      refine .cons ?_ ih
      show KeyR (match eqB k x with | true => (k, y) | false => (k, z)).1 (if k' = keyK x then (k', v) else (k', z')).1 ∧ RepV K H (match eqB k x with | true => (k, y) | false => (k, z)).2 (if k' = keyK x then (k', v) else (k', z')).2
      by_cases q : keyK k = keyK x
      · rw [e, decide_eq_true q, if_pos (show k' = keyK x from h2.trans q)]
        exact ⟨h.1, ry⟩
      · rw [e, decide_eq_false q, if_neg (show ¬ k' = keyK x from fun z => q (h2.symm.trans z))]
        exact h
  | false =>
    rw [if_neg (by simp)]
    show DicR K H (kvs ++ [(x, y)]) _
    exact Paired.snoc r ⟨keyR_mk hx, ry⟩
end
section
variable {X : Cx} {cx : Cls2}
theorem flat_rel {K : Frag} {H : Hp} {x : D} {v : V} (h : flatD x = true) (r : RepV K H x v) : flatV v = true := by
  cases x <;> first | (cases h; done) | (cases r; rfl)
theorem flats_rel {K : Frag} {H : Hp} : ∀ {ds : List D} {vs : List V}, ds.all flatD = true → RepL K H ds vs → vs.all flatV = true
  | [], _, _, e => by cases e; rfl
  | d :: ds, _, h, ⟨v, vr, e, r, rr⟩ => by
    subst e
    rw [List.all_cons, Bool.and_eq_true] at h
    rw [List.all_cons, flat_rel h.1 r, flats_rel h.2 rr]; rfl
theorem eqV_eqB {K : Frag} {H : Hp} {a b : D} {v u : V} (ha : flatD a = true) (hb : flatD b = true) (ra : RepV K H a v) (rb : RepV K H b u) : eqV v u = eqB a b := by
  cases a <;> first | (cases ha; done) | skip
  all_goals cases b <;> first | (cases hb; done) | skip
  all_goals cases ra
  all_goals cases rb
  all_goals first
    | rfl
    | (simp [eqV, eqB, Bool.beq_eq_decide_eq]; done)
    | (show (sv _ == sv _) = decide _; exact sv_inj)
theorem inV_any {K : Frag} {H : Hp} {x : D} {v : V} (hx : flatD x = true) (rx : RepV K H x v) : ∀ {ds : List D} {vs : List V}, ds.all flatD = true → RepL K H ds vs → inV v vs = ds.any fun y => eqB y x
  | [], _, _, e => by cases e; rfl
  | d :: ds, _, h, ⟨u, vr, e, r, rr⟩ => by
    subst e
    rw [List.all_cons, Bool.and_eq_true] at h
    have ih := inV_any hx rx h.2 rr
    unfold inV at ih ⊢
    rw [List.any_cons, List.any_cons, ih, eqV_eqB h.1 hx r rx]
theorem anyP : ∀ {ds : List D} {x : D}, pls 60 ds = true → pln x = true → ((toPs ds).any fun z => PyData.eqv z (toP x)) = ds.any fun y => eqB y x
  | [], _, _, _ => rfl
  | d :: ds, x, h, hx => by
    simp only [pls, Bool.and_eq_true] at h
    show ((toP d :: toPs ds).any _) = _
    rw [List.any_cons, List.any_cons, anyP h.2 hx, eqB_eqv d x 60 60 h.1 hx]
theorem DGet.fk {H : Hp} {a : Addr} {kvs : List (Key × V)} {k : Key} {o : Obj} (e : H a = some (.frz o (.dK kvs))) : DGet H a (kV k) (valV kvs k) := .inl ⟨kvs, k, .inr ⟨o, e⟩, rfl, rfl⟩
theorem mem_ok (neg : Bool) (hu : X.A.units + 65 < cLine) (hw : cx.w = X.w) : OpR X (compareOp (if neg then .NotIn else .In)) (r2of X.K cx fun a b S Q => memD a b S fun k => Q (.d (.bl (if neg then !k else k))) S) := by
  intro pins s σ H x y v u Q I rx ry w
  obtain ⟨S, a, b, hr, ra, rb, w⟩ := w
  cases a <;> first | exact w.elim | skip
  rename_i x'
  obtain ⟨c, w, hc⟩ := view_of hr rb w
  unfold memC at w
  split at w
  · obtain ⟨p, vs, rfl, hp, r1⟩ := hc
    have k := fin_bl w.2.2 hr
    rw [← anyP w.2.1 w.1] at k
    cases neg with
    | true => exact op_notInD hu pins s σ H _ _ v u Q I rx ry ⟨_, _, RepV.dp 60 _ _ w.1 ra, .lst (SqL.of hp) (RepL.dp 60 _ _ w.2.1 r1), pln_shaped w.1, plns_shaped w.2.1, k⟩
    | false => exact op_inD hu pins s σ H _ _ v u Q I rx ry ⟨_, _, RepV.dp 60 _ _ w.1 ra, .lst (SqL.of hp) (RepL.dp 60 _ _ w.2.1 r1), pln_shaped w.1, plns_shaped w.2.1, k⟩
  · obtain ⟨p, vs, rfl, hp, r1⟩ := hc
    have k := fin_bl w.2.2 hr
    rw [← inV_any w.1 ra w.2.1 r1] at k
    cases neg with
    | true => exact op_notIn_seq pins s σ H _ _ v u Q I rx ry ⟨p, vs, rfl, .inr hp, flat_rel w.1 ra, flats_rel w.2.1 r1, k⟩
    | false => exact op_in_seq pins s σ H _ _ v u Q I rx ry ⟨p, vs, rfl, .inr hp, flat_rel w.1 ra, flats_rel w.2.1 r1, k⟩
  · obtain ⟨p, ks, rfl, hp, r1⟩ := hc
    cases ry
    have k := fin_bl w.2 hr
    rw [r1.has w.1] at k
    have ex := key_rel w.1 ra
    subst ex
    cases neg with
    | true => exact d_notIn (by omega) I (DGet.k hp) rx fun s' I' => ⟨.bl _, H, I', rfl, k⟩
    | false => exact d_in (by omega) I (DGet.k hp) rx fun s' I' => ⟨.bl _, H, I', rfl, k⟩
  · obtain ⟨p, ks, o, rfl, hp, r1⟩ := hc
    cases ry
    have k := fin_bl w.2 hr
    rw [r1.has w.1] at k
    have ex := key_rel w.1 ra
    subst ex
    cases neg with
    | true => exact d_notIn (by omega) I (DGet.fk hp) rx fun s' I' => ⟨.bl _, H, I', rfl, k⟩
    | false => exact d_in (by omega) I (DGet.fk hp) rx fun s' I' => ⟨.bl _, H, I', rfl, k⟩
  · obtain ⟨p, xs, rfl, hp, r1⟩ := hc
    cases ry
    have k := fin_bl w.2 hr
    rw [hw] at hp
    cases neg with
    | true => exact dn_notIn (by omega) I (.inl hp) r1 w.1 ra rx fun s' I' => ⟨.bl _, H, I', rfl, k⟩
    | false => exact dn_in (by omega) I (.inl hp) r1 w.1 ra rx fun s' I' => ⟨.bl _, H, I', rfl, k⟩
  · obtain ⟨p, xs, o, rfl, hp, r1⟩ := hc
    cases ry
    have k := fin_bl w.2 hr
    rw [hw] at hp
    cases neg with
    | true => exact dn_notIn (by omega) I (.inr ⟨o, hp⟩) r1 w.1 ra rx fun s' I' => ⟨.bl _, H, I', rfl, k⟩
    | false => exact dn_in (by omega) I (.inr ⟨o, hp⟩) r1 w.1 ra rx fun s' I' => ⟨.bl _, H, I', rfl, k⟩
  · cases ra
    cases hc
    have k := fin_bl w hr
    cases neg with
    | true => exact op_notIn_sign pins s σ H _ _ v u Q I rx ry ⟨_, _, rfl, rfl, by simpa using k⟩
    | false => exact op_in_sign pins s σ H _ _ v u Q I rx ry ⟨_, _, rfl, rfl, by simpa using k⟩
  · exact w.elim
theorem memh_ok (neg : Bool) (hu : X.A.units + 65 < cLine) : OpR X (compareOp (if neg then .NotIn else .In)) (r2of X.K cx fun a b S Q => memH a b S fun k => Q (.d (.bl (if neg then !k else k))) S) := by
  intro pins s σ H x y v u Q I rx ry w
  obtain ⟨S, a, b, hr, ra, rb, w⟩ := w
  cases a <;> first | exact w.elim | skip
  rename_i x'
  obtain ⟨c, w, hc⟩ := view_of hr rb w
  cases c <;> first | exact w.elim | skip
  obtain ⟨p, vs, rfl, hp, r1⟩ := hc
  have k := fin_bl w.2.2 hr
  rw [← anyP w.2.1.2 w.1] at k
  obtain ⟨as, q1⟩ := Dp.reads I _ x v (RepV.dp 60 _ _ w.1 ra) rx
  have sh : SeqAt.shaped (toP (.tup _)) = true := pln_shaped (a := .tup _) w.2.1.1
  obtain ⟨bs, q2⟩ := Dp.reads I _ _ u (Dp.tup hp (RepL.dp 59 _ _ w.2.1.1 r1)) ry
  cases neg with
  | true => exact SeqAt.notIn_tuple_reads q2 q1 (SeqAt.canLay_of_shaped sh) (SeqAt.canLay_of_shaped (pln_shaped w.1)) (room_in_shaped (pln_shaped w.1) hu) ⟨.bl _, H, I, rfl, k⟩
  | false => exact SeqAt.in_tuple_reads q2 q1 (SeqAt.canLay_of_shaped sh) (SeqAt.canLay_of_shaped (pln_shaped w.1)) (room_in_shaped (pln_shaped w.1) hu) ⟨.bl _, H, I, rfl, k⟩
theorem op2_memh (hu : X.A.units + 65 < cLine) : OpR X (compareOp .In) (r2of X.K cx (op2D .memh)) := memh_ok (cx := cx) false hu
theorem op2_nmemh (hu : X.A.units + 65 < cLine) : OpR X (compareOp .NotIn) (r2of X.K cx (op2D .nmemh)) := memh_ok (cx := cx) true hu
theorem memr_ok (neg : Bool) (hu : X.A.units + 65 < cLine) : OpR X (compareOp (if neg then .NotIn else .In)) (r2of X.K cx fun a b S Q => memR a b S fun k => Q (.d (.bl (if neg then !k else k))) S) := by
  intro pins s σ H x y v u Q I rx ry w
  obtain ⟨S, a, b, hr, ra, rb, p, q, ps, h1, h2, h3, h4, h5, w⟩ := w
  have k := fin_bl w hr
  have d1 := resX_dp hr ra h1
  have d2 := resX_dp hr rb h2
  rcases h5 with rfl | rfl
  · obtain ⟨as, q1⟩ := Dp.reads I _ _ v d1 rx
    obtain ⟨bs, q2⟩ := Dp.reads I _ _ u d2 ry
    cases neg with
    | true => exact SeqAt.notIn_tuple_reads q2 q1 (SeqAt.canLay_of_shaped h4) (SeqAt.canLay_of_shaped h3) (room_in_shaped h3 hu) ⟨.bl _, H, I, rfl, k⟩
    | false => exact SeqAt.in_tuple_reads q2 q1 (SeqAt.canLay_of_shaped h4) (SeqAt.canLay_of_shaped h3) (room_in_shaped h3 hu) ⟨.bl _, H, I, rfl, k⟩
  · cases neg with
    | true => exact op_notInD hu pins s σ H _ _ v u Q I rx ry ⟨_, _, d1, d2, h3, h4, k⟩
    | false => exact op_inD hu pins s σ H _ _ v u Q I rx ry ⟨_, _, d1, d2, h3, h4, k⟩
theorem op2_memr (hu : X.A.units + 65 < cLine) : OpR X (compareOp .In) (r2of X.K cx (op2D .memr)) := memr_ok (cx := cx) false hu
theorem op2_nmemr (hu : X.A.units + 65 < cLine) : OpR X (compareOp .NotIn) (r2of X.K cx (op2D .nmemr)) := memr_ok (cx := cx) true hu
theorem op2_mem (hu : X.A.units + 65 < cLine) (hw : cx.w = X.w) : OpR X (compareOp .In) (r2of X.K cx (op2D .mem)) := mem_ok (cx := cx) false hu hw
theorem op2_nmem (hu : X.A.units + 65 < cLine) (hw : cx.w = X.w) : OpR X (compareOp .NotIn) (r2of X.K cx (op2D .nmem)) := mem_ok (cx := cx) true hu hw
theorem getI_atI {α β : Type} {xs : List α} {ys : List β} (h : xs.length = ys.length) {i : Int} {x : α} (e : getI xs i = some x) : ∃ j : Nat, xs[j]? = some x ∧ ∀ y, ys[j]? = some y → atI ys i = some y := by
  cases i with
  | ofNat n =>
    refine ⟨n, e, fun y hy => ?_⟩
    have hn : n < ys.length := (List.getElem?_eq_some_iff.mp hy).1
    unfold atI ixN
    rw [if_pos (by simp), if_pos (by simp; omega)]
    simpa using hy
  | negSucc n =>
    have e : (if n < xs.length then xs[xs.length - (n + 1)]? else none) = some x := e
    split at e
    · rename_i hn
      refine ⟨_, e, fun y hy => ?_⟩
      unfold atI ixN
      rw [if_neg (by omega), if_pos (by rw [← h]; omega)]
      have e2 : (Int.negSucc n + (ys.length : Int)).toNat = xs.length - (n + 1) := by rw [← h]; omega
      show ys[_]? = _
      rw [e2]
      exact hy
    · cases e
theorem RepL.getI {K : Frag} {H : Hp} {ds : List D} {vs : List V} {i : Int} {d : D} (r : RepL K H ds vs) (e : DL.getI ds i = some d) : ∃ v, atI vs i = some v ∧ RepV K H d v := by
  obtain ⟨j, h1, h2⟩ := getI_atI r.length e
  obtain ⟨v, h3, h4⟩ := r.get h1
  exact ⟨v, h2 v h3, h4⟩
theorem ix_ok (hu : X.A.units + 65 < cLine) (hw : cx.w = X.w) : IxR X (r2of X.K cx (op2D .idx)) := by
  intro value slice pins s σ H x y v u Q I rx ry w hs
  obtain ⟨S, a, b, hr, ra, rb, w⟩ := w
  have w : idxD a b S (KVof X.K cx S H Q) := w
  unfold idxD at w
  split at w
  · obtain ⟨c, w, hc⟩ := view_of hr ra w
    unfold idxC at w
    split at w
    · obtain ⟨p, vs, rfl, hp, r1⟩ := hc
      cases rb
      obtain ⟨z, e, k⟩ := w
      obtain ⟨zv, h1, h2⟩ := r1.getI e
      exact ix_list value slice pins s σ H _ _ v u Q I rx ry ⟨p, vs, _, zv, rfl, rfl, SqL.of hp, h1, fin_d k hr h2⟩ hs
    · obtain ⟨p, vs, rfl, hp, r1⟩ := hc
      cases rb
      obtain ⟨z, e, k⟩ := w
      obtain ⟨zv, h1, h2⟩ := r1.getI e
      exact ix_list value slice pins s σ H _ _ v u Q I rx ry ⟨p, vs, _, zv, rfl, rfl, hp, h1, fin_d k hr h2⟩ hs
    · obtain ⟨p, vs, rfl, hp, r1⟩ := hc
      cases rb
      obtain ⟨z, e, k⟩ := w
      obtain ⟨zv, h1, h2⟩ := r1.getI e
      exact ix_tup value slice pins s σ H _ _ v u Q I rx ry ⟨p, vs, _, zv, rfl, rfl, hp, h1, fin_d k hr h2⟩ hs
    · cases hc
      cases rb
      obtain ⟨hz, z, e, k⟩ := w
      rename_i _ cs i _
      obtain ⟨j, h1, h2⟩ := getI_atI (ys := (sv cs).cps.toList) (by simp) e
      exact ix_str value slice pins s σ H _ _ v u Q I rx ry ⟨_, _, z, rfl, rfl, by rw [sv_length]; exact hz, h2 z (by simpa using h1), fin_d k hr rfl⟩ hs
    · obtain ⟨p, ks, rfl, hp, r1⟩ := hc
      cases rx
      obtain ⟨hk, z, e, k⟩ := w
      obtain ⟨zv, h1, h2⟩ := (r1.get hk).1 _ e
      have ex := key_rel hk rb
      subst ex
      have g : DGet H p (kV (keyK _)) (some zv) := h1 ▸ DGet.k hp
      exact tail_any (dict_typeIs I g) PySem.F.slot_dict_getitem.lookup (d_getItem (by omega) I g ry fun w' s3 I3 rw' => ⟨zv, H, I3, rw', fin_d k hr h2⟩) hs
    · obtain ⟨p, ks, o, rfl, hp, r1⟩ := hc
      cases rx
      obtain ⟨hk, z, e, k⟩ := w
      obtain ⟨zv, h1, h2⟩ := (r1.get hk).1 _ e
      have ex := key_rel hk rb
      subst ex
      have g : DGet H p (kV (keyK _)) (some zv) := h1 ▸ DGet.fk hp
      exact tail_any (dict_typeIs I g) PySem.F.slot_dict_getitem.lookup (d_getItem (by omega) I g ry fun w' s3 I3 rw' => ⟨zv, H, I3, rw', fin_d k hr h2⟩) hs
    · obtain ⟨p, xs, rfl, hp, r1⟩ := hc
      cases rx
      obtain ⟨hk, z, e, k⟩ := w
      rw [hw] at hp
      exact tail_any (dn_typeIs I (.inl hp)) PySem.F.slot_dict_getitem.lookup (dn_getItem (by omega) I (.inl hp) r1 hk rb ry e fun zv w' s3 I3 rw' h2 => ⟨zv, H, I3, rw', fin_d k hr h2⟩) hs
    · obtain ⟨p, xs, o, rfl, hp, r1⟩ := hc
      cases rx
      obtain ⟨hk, z, e, k⟩ := w
      rw [hw] at hp
      exact tail_any (dn_typeIs I (.inr ⟨o, hp⟩)) PySem.F.slot_dict_getitem.lookup (dn_getItem (by omega) I (.inr ⟨o, hp⟩) r1 hk rb ry e fun zv w' s3 I3 rw' h2 => ⟨zv, H, I3, rw', fin_d k hr h2⟩) hs
    · exact w.elim
  · exact w.elim
end
noncomputable def c1of (K : Frag) (cx : Cls2) (o : O1) : List V → Hp → VK → Prop := fun vs H Q => ∃ v, vs = [v] ∧ r1of K cx (op1D o) v H Q
noncomputable def c2of (K : Frag) (cx : Cls2) (o : O2) : List V → Hp → VK → Prop := fun vs H Q => ∃ v u, vs = [v, u] ∧ r2of K cx (op2D o) v u H Q
section
variable {prog : Program} {w : World} {A : Around} {s : Shared} {E : Value → Shared → Prop}
noncomputable def laidL (h : Heap) (vs : List Value) : Heap := (h.push (seqObj "list" #[] 0)).update h.objs.size (Obj.mapSeq (· ++ vs.toArray))
theorem laidL_size (h : Heap) (vs : List Value) : (laidL h vs).objs.size = h.objs.size + 1 := by unfold laidL; rw [Heap.size_update, size_push']
theorem laidL_old {h : Heap} {vs : List Value} {b : Addr} {o : Obj} (e : h.get? b = some o) : (laidL h vs).get? b = some o := by
  unfold laidL
  rw [Heap.get?_update_ne _ _ _ _ (Nat.ne_of_lt (Heap.lt_size e))]
  exact Heap.get?_push_of_some _ e
theorem items_tup {l : Addr} {o : Obj} {n : Nat} {vs : List Value} {Q : List Value → Shared → Prop} (ho : s.heap.get? l = some o) (hc : o.cls = .type "tuple") (hd : o.data = .seq vs.toArray n) (hsz : vs.length ≤ sizeLine)
    (h : Q vs { s with heap := laidL s.heap vs }) : wpAny (model prog w) A (collect (.ref l)) Q E s := by
  have old : (s.heap.push (seqObj "list" #[] 0)).get? l = some o := Heap.get?_push_of_some _ ho
  have new : (s.heap.push (seqObj "list" #[] 0)).get? s.heap.objs.size = some (seqObj "list" #[] 0) := Heap.get?_push_size _ rfl
  have two : (Value.type "tuple" == Value.type "tuple") = true := rfl
  have lim : (#[] ++ vs.toArray).size ≤ sizeLine + 1 := by
    rw [Array.size_append, List.size_toArray]
    show 0 + vs.length ≤ _
    omega
  unfold collect
  refine wpAny_bind (wpAny_runValue (codeAny_builtin entry_proto_collect' (wpAny_bind (wpAny_newList (wpAny_pure ⟨Code.quiet_builtin _ (by decide +kernel), codeAny_builtin entry_list_iadd' ?_⟩)))))
  show wpAny _ _ (Builtin.List.listExtendWith (.ref s.heap.objs.size) (.ref l) (.ref s.heap.objs.size)) _ _ { s with heap := s.heap.push (seqObj "list" #[] 0) }
  unfold Builtin.List.listExtendWith
  refine wpAny_bind (wpAny_typeOf (T := "tuple") ⟨o, old, hc⟩ ?_)
  rw [if_pos (by rw [two]; simp)]
  refine wpAny_bind (listItems_at old hd (wpAny_bind (listItems_at (xs := #[]) (n := 0) new rfl ?_)))
  rw [if_neg (by simp)]
  refine wpAny_bind (listUpdate_at (xs := #[]) (n := 0) new rfl (wpAny_pure (wpAny_bind (wpAny_load (get?_update_seq new _) ?_))) (Nat.zero_le _) lim)
  refine wpAny_pure ?_
  rw [show ((#[] : Array Value) ++ vs.toArray).toList = vs by simp]
  exact h
theorem sorted_tupI {l : Addr} {o : Obj} {n : Nat} {vs : List Value} {ns : List Int} {Q : Value → Shared → Prop} (ho : s.heap.get? l = some o) (hc : o.cls = .type "tuple") (hd : o.data = .seq vs.toArray n) (hsz : vs.length ≤ sizeLine) (hi : IntsAre vs ns)
    (h : ∀ (out : List Value) (h' : Heap) (k : Nat), (∀ b o, s.heap.get? b = some o → h'.get? b = some o) → h'.get? (s.heap.objs.size + 1) = some (seqObj "list" out.toArray k) → IntsAre out (out.map SrtO.iv) → (out.map SrtO.iv).Perm ns → (out.map SrtO.iv).Pairwise (· ≤ ·) → Q (.ref (s.heap.objs.size + 1)) { s with heap := h' }) :
    wpAny (model prog w) A (call (.builtin "sorted") [.ref l]) Q E s := by
  refine Calls.call_function_entry kind_sorted plain_sorted entry_sorted (args_sorted1 _) ?_
  unfold Builtin.«sorted»
  refine wpAny_bind (m := checkCount "sorted" 1 1 _) (wpAny_pure (wpAny_bind (items_tup ho hc hd hsz (wpAny_bind (wpAny_newList ?_ hsz)))))
  show wpAny _ _ _ _ _ { s with heap := (laidL s.heap vs).push (seqObj "list" vs.toArray 0) }
  rw [laidL_size]
  have new : ((laidL s.heap vs).push (seqObj "list" vs.toArray 0)).get? (s.heap.objs.size + 1) = some (seqObj "list" vs.toArray 0) := by
    rw [← laidL_size s.heap vs]; exact Heap.get?_push_size _ rfl
  have old : ∀ b o, s.heap.get? b = some o → b ≠ s.heap.objs.size + 1 ∧ ((laidL s.heap vs).push (seqObj "list" vs.toArray 0)).get? b = some o := fun b o e =>
    ⟨Nat.ne_of_lt (Nat.lt_succ_of_lt (Heap.lt_size e)), Heap.get?_push_of_some _ (laidL_old e)⟩
  refine wpAny_bind (wpAny_holding (wpAny_call_entry slot_list_sort ⟨_, new, rfl⟩ entry_list_sort (SrtO.list_sort_ord SrtO.swo_int new hsz (fun h2 => SrtO.ints_sortable hi h2) fun out hs hb => ⟨_, rfl, wpAny_pure ⟨_, rfl, ?_⟩⟩) (args_list_sort _)))
  obtain ⟨k1, k2, k3⟩ := SrtO.ints_out hi hs hb
  obtain ⟨k, ek⟩ := sortedHeap_at (out := out.toArray) new
  exact h out _ k (fun b o e => (sortedHeap_old (old b o e).1 (Heap.lt_size (old b o e).2)).trans (old b o e).2) ek k1 k2 k3
end
section
variable {X : Cx} {cx : Cls2}
theorem op1_neg : UnR X (unaryOp .USub) (r1of X.K cx (op1D .neg)) := by
  intro pins s σ H x v Q I rx w
  obtain ⟨S, a, hr, ra, w⟩ := w
  have w : negD a S _ := w
  unfold negD at w
  split at w
  · cases ra
    exact un_neg pins s σ H _ v Q I rx ⟨_, rfl, fin_int w hr⟩
  · exact w.elim
theorem view_len {K : Frag} {H : Hp} {c : Cn} {v : V} {n : Nat} (hc : CnR K cx H c v) (e : lenC c = some n) : LenV K v H n ∨ ∃ a ks, v = .ref a ∧ H a = some (.dK ks) ∧ n = ks.length := by
  cases c with
  | l ds => obtain ⟨p, vs, rfl, hp, r⟩ := hc; cases e; exact .inl (.inl ⟨vs, SqL.of hp, r.length⟩)
  | f ds => obtain ⟨p, vs, rfl, hp, r⟩ := hc; cases e; exact .inl (.inl ⟨vs, hp, r.length⟩)
  | t ds => obtain ⟨p, vs, rfl, hp, r⟩ := hc; cases e; exact .inl (.inr ⟨vs, hp, r.length⟩)
  | k ds => obtain ⟨p, vs, rfl, hp, r⟩ := hc; cases e; exact .inr ⟨p, vs, rfl, hp, r.length⟩
  | s cs =>
    cases hc
    simp only [lenC] at e
    split at e
    · cases e
      rename_i h
      exact .inl ⟨by rw [sv_length]; exact h, (sv_length _).symm⟩
    · cases e
  | i _ _ => cases e
  | kf _ => cases e
  | kn _ => cases e
  | kfn _ => cases e
  | e _ => exact hc.elim
theorem call1_len : CallR X (.builtin "len") (c1of X.K cx .len) := by
  intro pins s σ H xs us Q I r w
  obtain ⟨v, rfl, S, a, hr, ra, w⟩ := w
  obtain ⟨c, w, hc⟩ := view_of hr ra w
  obtain ⟨n, e, k⟩ := w
  have k := fin_int k hr
  rcases view_len hc e with h | ⟨p, ks, rfl, hp, rfl⟩
  · exact call_len pins s σ H _ us Q I r ⟨_, _, rfl, h, k⟩
  · exact call_lenD pins s σ H _ us Q I r ⟨_, _, rfl, hp, k⟩
theorem call1_int : CallR X (.type "int") (c1of X.K cx .int) := by
  intro pins s σ H xs us Q I r w
  obtain ⟨v, rfl, S, a, hr, ra, w⟩ := w
  have w : toIntD a S _ := w
  unfold toIntD at w
  split at w <;> first | exact w.elim | skip
  all_goals cases ra
  · exact call_int1 pins s σ H _ us Q I r (.inl ⟨_, rfl, fin_int w hr⟩)
  · exact call_int1 pins s σ H _ us Q I r (.inr ⟨_, rfl, fin_int w hr⟩)
  · obtain ⟨n, ⟨h1, h2⟩, w⟩ := w
    exact call_int_str pins s σ H _ us Q I r ⟨_, n, rfl, h1, by rw [sv_length]; exact h2, fin_int w hr⟩
theorem toStr_sv (i : Int) : ((toString i : String) : Str) = sv ((toString i : String).toList.map Char.toNat) := Str.ofString_eq_toList _
mutual
theorem sh_toP : ∀ (n : Nat) (d : D), pl n d = true → shD d = true → shP (toP d) = true ∧ shN (toP d) = shL d
  | _, .int i, _, h => ⟨h, rfl⟩
  | _, .str s, _, h => ⟨by show decide ((sv s).cps.toList ∈ shWords) = true; exact h, rfl⟩
  | _, .non, _, h => by cases h
  | _, .bl _, _, h => by cases h
  | _, .ref _, _, h => by cases h
  | _, .xt _, _, h => by cases h
  | 0, .tup ds, p, _ => by simp [pl] at p
  | n + 1, .tup ds, p, h => by
    obtain ⟨h1, h2⟩ := sh_toPs n ds (by simpa [pl] using p) h
    exact ⟨h1, by show 5 + shNs (toPs ds) = 5 + shLs ds; rw [h2]⟩
theorem sh_toPs : ∀ (n : Nat) (ds : List D), pls n ds = true → shDs ds = true → shPs (toPs ds) = true ∧ shNs (toPs ds) = shLs ds
  | _, [], _, _ => ⟨rfl, rfl⟩
  | n, d :: ds, p, h => by
    simp only [pls, Bool.and_eq_true] at p
    have h : (shD d && shDs ds) = true := h
    rw [Bool.and_eq_true] at h
    obtain ⟨h1, h2⟩ := sh_toP n d p.1 h.1
    obtain ⟨h3, h4⟩ := sh_toPs n ds p.2 h.2
    exact ⟨by show (shP (toP d) && shPs (toPs ds)) = true; rw [h1, h3]; rfl, by show shN (toP d) + 2 + shNs (toPs ds) = shL d + 2 + shLs ds; rw [h2, h4]⟩
end
theorem call1_str (hu : X.A.units + 64 < cLine) : CallR X (.type "str") (c1of X.K cx .str) := by
  intro pins s σ H xs us Q I r w
  obtain ⟨v, rfl, S, a, hr, ra, w⟩ := w
  have w : strD a S _ := w
  unfold strD at w
  split at w <;> first | exact w.elim | skip
  · cases ra
    refine call_str_int pins s σ H _ us Q I r ⟨_, rfl, w.1, fin_d w.2 hr ?_⟩
    show V.str _ = V.str _
    rw [toStr_sv]
  · rename_i ds _
    obtain ⟨t, vs, rfl, q, rr⟩ := ra
    obtain ⟨u, rfl, r1⟩ := vals1 r
    have hd : Dp X.K H (.ref t) (.tuple (toPs ds)) := .tup q (RepL.dp 40 _ _ w.1.1 rr)
    obtain ⟨as, rd⟩ := Dp.reads I _ _ u hd r1
    cases r1
    obtain ⟨h1, h2⟩ := sh_toPs 40 ds w.1.1 w.1.2.1
    have h3 := (pls_lay 40 ds w.1.1).2
    refine str_tup rd h1 (by rw [h2]; have := w.1.2.2; rw [sizeLine_eq]; omega) (by omega) (fun _ _ e => e) fun x ox u tk => ?_
    refine ⟨.str x, H, I.tok _, ⟨_, rfl⟩, fin_d (w.2 x.cps.toList ox.toB) hr ?_⟩
    show V.str _ = V.str _
    cases x; rfl
theorem view_seq {K : Frag} {H : Hp} {c : Cn} {v : V} {ds : List D} (hc : CnR K cx H c v) (e : seqOf c = some ds) : ∃ p vs, v = .ref p ∧ (SqL K H p vs ∨ SqT K H p vs) ∧ RepL K H ds vs ∧ (SqT K H p vs ∨ ¬ ∃ es, c = .t es) := by
  cases c with
  | l ds => obtain ⟨p, vs, rfl, hp, r⟩ := hc; cases e; exact ⟨p, vs, rfl, .inl (SqL.of hp), r, .inr fun ⟨_, z⟩ => by cases z⟩
  | f ds => obtain ⟨p, vs, rfl, hp, r⟩ := hc; cases e; exact ⟨p, vs, rfl, .inl hp, r, .inr fun ⟨_, z⟩ => by cases z⟩
  | t ds => obtain ⟨p, vs, rfl, hp, r⟩ := hc; cases e; exact ⟨p, vs, rfl, .inr hp, r, .inl hp⟩
  | _ => cases e
theorem call1_list : CallR X (.type "list") (c1of X.K cx .list) := by
  intro pins s σ H xs us Q I r w
  obtain ⟨v, rfl, S, a, hr, ra, w⟩ := w
  obtain ⟨c, w, hc⟩ := view_of hr ra w
  obtain ⟨ds, e, k⟩ := w
  obtain ⟨p, vs, rfl, hp, r1, _⟩ := view_seq hc e
  exact call_list_of pins s σ H _ us Q I r ⟨p, vs, rfl, hp, fin_vl k hr r1⟩
theorem call1_tuple : CallR X (.type "tuple") (c1of X.K cx .tuple) := by
  intro pins s σ H xs us Q I r w
  obtain ⟨v, rfl, S, a, hr, ra, w⟩ := w
  obtain ⟨c, w, hc⟩ := view_of hr ra w
  obtain ⟨ds, e, k⟩ := w
  obtain ⟨p, vs, rfl, hp, r1, _⟩ := view_seq hc e
  rcases hp with hp | hp
  · exact call_tuple_of pins s σ H _ us Q I r ⟨p, vs, rfl, .inl ⟨hp, fin_tup k hr r1⟩⟩
  · exact call_tuple_of pins s σ H _ us Q I r ⟨p, vs, rfl, .inr ⟨hp, fin_d k hr ⟨p, vs, rfl, hp, r1⟩⟩⟩
theorem call1_tupleX : CallR X (.type "tuple") (c1of X.K cx .tupleX) := by
  intro pins s σ H xs us Q I r w
  obtain ⟨v, rfl, S, a, hr, ra, w⟩ := w
  obtain ⟨c, w, hc⟩ := view_of hr ra w
  obtain ⟨ds, rfl, k⟩ := w
  obtain ⟨p, vs, rfl, hp, r1⟩ := hc
  obtain ⟨u, rfl, rx⟩ := vals1 r
  cases rx
  obtain ⟨its, rv, pl, hz⟩ := I.list (SqL.of hp)
  have hlen := rv.length
  refine call_tuple_list pl.isList (fun h' kp => ?_) (by simp only [List.size_toArray]; omega)
  have J : Inv X pins σ H { s with heap := h' } := I.kept (t' := s.toks) kp
  have fresh : H h'.objs.size = none := J.hok.fresh (Nat.le_refl _)
  have J2 : Inv X pins σ (upd H h'.objs.size (.frz { cls := .type "tuple", data := .seq its.toArray } (.tup vs))) { s with heap := h'.push { cls := .type "tuple", data := .seq its.toArray } } :=
    J.laid (t' := s.toks) (fun b o e => Heap.get?_push_of_some _ e) (Nat.le_refl _) ⟨Heap.get?_push_size _ rfl, hz, its, rv, IsTup.new _ _⟩
  refine ⟨.ref h'.objs.size, _, J2, rfl, k _ _ (hr.upd0 (hr.free fresh) (tupS_new fresh)) (.new fresh) ⟨⟨_, vs, rfl, ⟨_, upd_same, rfl⟩, r1.keep (tupS_new fresh)⟩, fun e => by cases e⟩⟩
theorem dic_ints {K : Frag} {H : Hp} : ∀ {kvs : List (D × D)} {ks : List (Key × V)} {ns : List Int}, DicR K H kvs ks → kvs.map Prod.fst = ns.map D.int → ks.map (·.1) = ns.map Sum.inl
  | [], _, ns, .nil, e => by
    cases ns with
    | nil => rfl
    | cons n ns => cases e
  | p :: kvs, q :: ks, ns, .cons h t, e => by
    cases ns with
    | nil => cases e
    | cons n ns =>
      simp only [List.map_cons, List.cons.injEq] at e ⊢
      refine ⟨?_, dic_ints t e.2⟩
      have h := h.1
      rw [e.1] at h
      exact h
theorem call1_sorted (hcalm : X.calm = true) : CallR X (.builtin "sorted") (c1of X.K cx .sorted) := by
  intro pins s σ H xs us Q I r w
  obtain ⟨v, rfl, S, a, hr, ra, w⟩ := w
  obtain ⟨c, w, hc⟩ := view_of hr ra w
  obtain ⟨ns, e, k⟩ := w
  rcases e with rfl | ⟨kvs, rfl, e, h64⟩ | rfl
  rotate_left 2
  · obtain ⟨p, vs, rfl, hp, r1⟩ := hc
    have e := r1.ints
    subst e
    obtain ⟨u, rfl, rx⟩ := vals1 r
    cases rx
    obtain ⟨its, rv, ⟨o, ho, hcl, n, hd⟩, hz⟩ := I.tuple hp
    refine sorted_tupI ho hcl hd (by rw [← rv.length]; exact hz) rv.ints fun out h' kk kp e2 k1 k2 k3 => ?_
    have hlen : ((out.map SrtO.iv).map V.int).length ≤ sizeLine := by
      rw [List.length_map, k2.length_eq]
      rw [List.length_map] at hz
      exact hz
    exact ⟨.ref _, upd H (s.heap.objs.size + 1) (.lst ((out.map SrtO.iv).map V.int)), I.laid (t' := s.toks) kp (Nat.le_succ _) ⟨hlen, out, kk, vals_of_ints k1, e2⟩, rfl, fin_vl (k _ k2 k3) hr (RepL.ofInts _) _ (I.hok.fresh (Nat.le_succ _))⟩
  · obtain ⟨p, vs, rfl, hp, r1⟩ := hc
    have e := r1.ints
    subst e
    exact cr_sortedI pins s σ H _ us Q I r ⟨p, ns, rfl, SqL.of hp, fun ns' q h1 h2 n => fin_vl (k ns' h1 h2) hr (RepL.ofInts ns') q n⟩
  · obtain ⟨p, ks, rfl, hp, rd⟩ := hc
    exact call_sortedDI hcalm pins s σ H _ us Q I r ⟨p, ks, ns, rfl, .inl hp, dic_ints rd e, h64, fun ns' q h1 h2 n => fin_vl (k ns' h1 h2) hr (RepL.ofInts ns') q n⟩
theorem call1_dict : CallR X (.type "dict") (c1of X.K cx .dict) := by
  intro pins s σ H xs us Q I r w
  obtain ⟨v, rfl, S, a, hr, ra, w⟩ := w
  obtain ⟨c, w, hc⟩ := view_of hr ra w
  obtain ⟨kvs, rfl, w⟩ := w
  obtain ⟨p, ks, rfl, hp, rd⟩ := hc
  exact call_dictD pins s σ H _ us Q I r ⟨p, ks, rfl, .inl hp, fun q hq => w _ _ (hr.upd0 (hr.free hq) (tupS_new hq)) (.new hq) ⟨⟨q, ks, rfl, upd_same, hr.free hq, rd.keep (tupS_new hq)⟩, fun _ => ⟨q, rfl, hq⟩⟩⟩
theorem call1_all (hc : X.calm = true) : CallR X (.builtin "all") (c1of X.K cx .all) := by
  intro pins s σ H xs us Q I r w
  obtain ⟨v, rfl, S, a, hr, ra, w⟩ := w
  obtain ⟨c, w, hc'⟩ := view_of hr ra w
  obtain ⟨ds, ns, rfl, rfl, k⟩ := w
  obtain ⟨p, vs, rfl, hp, r1⟩ := hc'
  have e := r1.bls
  subst e
  exact cr_all hc pins s σ H _ us Q I r ⟨p, ns, rfl, SqL.of hp, fin_bl k hr⟩
theorem call1_any (hc : X.calm = true) : CallR X (.builtin "any") (c1of X.K cx .any) := by
  intro pins s σ H xs us Q I r w
  obtain ⟨v, rfl, S, a, hr, ra, w⟩ := w
  obtain ⟨c, w, hc'⟩ := view_of hr ra w
  obtain ⟨ds, ns, rfl, rfl, k⟩ := w
  obtain ⟨p, vs, rfl, hp, r1⟩ := hc'
  have e := r1.bls
  subst e
  exact cr_any hc pins s σ H _ us Q I r ⟨p, ns, rfl, SqL.of hp, fin_bl k hr⟩
theorem call2_min (hc : X.calm = true) : CallR X (.builtin "min") (c2of X.K cx .min) := by
  intro pins s σ H xs us Q I r w
  obtain ⟨v, u, rfl, w⟩ := w
  obtain ⟨i, j, rfl, rfl, k⟩ := rI0_elim (gd := fun i j => .int (if j < i then j else i)) (fun _ _ _ => rfl) (fun _ _ _ _ h => h) w
  exact call_min2 hc pins s σ H _ us Q I r ⟨i, j, rfl, k⟩
theorem call2_max (hc : X.calm = true) : CallR X (.builtin "max") (c2of X.K cx .max) := by
  intro pins s σ H xs us Q I r w
  obtain ⟨v, u, rfl, w⟩ := w
  obtain ⟨i, j, rfl, rfl, k⟩ := rI0_elim (gd := fun i j => .int (if j > i then j else i)) (fun _ _ _ => rfl) (fun _ _ _ _ h => h) w
  exact call_max2 hc pins s σ H _ us Q I r ⟨i, j, rfl, k⟩
noncomputable def Ty.nm : Ty → String
  | .int => "int"
  | .bool => "bool"
  | .str => "str"
  | .tuple => "tuple"
  | .list => "list"
  | .dict => "dict"
noncomputable def Ty.all : List Ty := [.int, .bool, .str, .tuple, .list, .dict]
theorem kit_non (t : Ty) : kitB "NoneType" t.nm = some false := by cases t <;> decide +kernel
theorem kit_bool (t : Ty) : kitB "bool" t.nm = some (t = .bool || t = .int) := by cases t <;> decide +kernel
theorem kit_int (t : Ty) : kitB "int" t.nm = some (decide (t = .int)) := by cases t <;> decide +kernel
theorem kit_str (t : Ty) : kitB "str" t.nm = some (decide (t = .str)) := by cases t <;> decide +kernel
theorem kit_tuple (t : Ty) : kitB "tuple" t.nm = some (decide (t = .tuple)) := by cases t <;> decide +kernel
theorem kit_list (t : Ty) : kitB "list" t.nm = some (decide (t = .list)) := by cases t <;> decide +kernel
theorem kit_dict (t : Ty) : kitB "dict" t.nm = some (decide (t = .dict)) := by cases t <;> decide +kernel
theorem tupTy {K : Frag} {H : Hp} {a : Addr} {vs : List V} (h : SqT K H a vs) : TyX K H (.ref a) (.type "tuple") := by
  rcases h with (h | ⟨o, h⟩) | ⟨o, _, _, h, c, _⟩
  · exact .base (.tup h)
  · exact .fTuple h
  · exact .kTuple h c
theorem isi_ok (t : Ty) : CallR X (.builtin "isinstance") (fun vs H Q => ∃ v, vs = [v, .ty t.nm] ∧ r1of X.K cx (op1D (.isi t)) v H Q) := by
  intro pins s σ H xs us Q I r w
  obtain ⟨v, rfl, S, a, hr, ra, w⟩ := w
  have fin : ∀ {T : String} {b : Bool}, TyX X.K H v (.type T) → kitB T t.nm = some b → Q (.bl b) H → wpAny (model X.prog X.w) X.A (call (.builtin "isinstance") us) (EP X pins σ Q) X.xe s :=
    fun {T b} h1 h2 h3 => call_isi pins s σ H _ us Q I r ⟨v, .ty t.nm, .type T, .type t.nm, b, rfl, .ty _, h1, kit_ty h2, h3⟩
  have w : isiD t a S _ := w
  unfold isiD at w
  split at w
  · obtain ⟨b, e, k⟩ := w
    have k := fin_bl k hr
    unfold Ty.isD at e
    split at e
    · cases e; cases ra; exact fin (.base .non) (kit_non t) k
    · cases e; cases ra; exact fin (.base (.bl _)) (kit_bool t) k
    · cases e; cases ra; exact fin (.base (.int _)) (kit_int t) k
    · cases e; cases ra; exact fin (.base (.str _)) (kit_str t) k
    · cases e; obtain ⟨p, vs, rfl, hp, r1⟩ := ra; exact fin (tupTy hp) (kit_tuple t) k
    · cases e; obtain ⟨p, vs, rfl, hp, r1⟩ := ra; exact fin (tupTy hp.t) (kit_tuple t) k
    · cases ra
      split at e
      · rename_i h; cases e
        obtain ⟨vs, hp, _⟩ := hr _ _ h
        exact fin (.base (.lst hp)) (kit_list t) k
      · rename_i h; cases e
        obtain ⟨vs, hp, _⟩ := hr _ _ h
        exact fin (.base (.dK hp)) (kit_dict t) k
      · cases e
  · obtain ⟨p, vs, rfl, hp, _⟩ := ra
    exact fin (.base (.lst hp)) (kit_list t) (fin_bl w hr)
  · exact w.elim
theorem cut_all {vs : List V} {lo hi : Option Int} (h : HT.sIx vs.length 0 lo = 0 ∧ HT.sIx vs.length vs.length hi = vs.length) : cutV vs lo hi = vs := by
  unfold cutV
  rw [h.1, h.2]
  simp
noncomputable def s1of (K : Frag) (cx : Cls2) : V → Option Int → Option Int → Hp → VK → Prop := fun x lo hi H Q => ∃ S a, Rel K cx S H ∧ RepX K H S a x ∧ view a S fun c => slcC c lo hi S (KVof K cx S H Q)
theorem slc_ok : SlR X (s1of X.K cx) := by
  intro pins s σ H x v vl vu lo hi sl Q I rx hs pl pu w
  obtain ⟨S, a, hr, ra, w⟩ := w
  obtain ⟨c, w, hc⟩ := view_of hr ra w
  cases c with
  | l ds =>
    obtain ⟨p, vs, rfl, hp, r1⟩ := hc
    exact sl_list pins s σ H _ v vl vu lo hi sl Q I rx hs pl pu ⟨p, vs, rfl, SqL.of hp, fin_vl w hr (r1.cut lo hi)⟩
  | f ds =>
    obtain ⟨p, vs, rfl, hp, r1⟩ := hc
    exact sl_list pins s σ H _ v vl vu lo hi sl Q I rx hs pl pu ⟨p, vs, rfl, hp, fin_vl w hr (r1.cut lo hi)⟩
  | t ds =>
    obtain ⟨p, vs, rfl, hp, r1⟩ := hc
    refine sl_tupA pins s σ H _ v vl vu lo hi sl Q I rx hs pl pu ⟨p, vs, rfl, hp, fun h => ?_, fun _ => fin_tup w hr (r1.cut lo hi)⟩
    have e := r1.cut lo hi
    rw [cut_all h] at e
    exact fin_d w hr ⟨p, vs, rfl, hp, e⟩
  | s cs =>
    cases hc
    refine sl_str pins s σ H _ v vl vu lo hi sl Q I rx hs pl pu ⟨_, rfl, by rw [sv_length]; exact w.1, ?_⟩
    refine fin_d w.2 hr ?_
    show V.str _ = V.str _
    congr 1
  | _ => exact w.elim
theorem seqIx_nat {n m : Nat} (h : n < m) : seqIndex? (Int.ofNat n) m = some n := by
  have e : seqIndex? (Int.ofNat n) m = if (0 ≤ (if (n : Int) < 0 then (n : Int) + m else n) && (if (n : Int) < 0 then (n : Int) + m else n) < m) = true then some (if (n : Int) < 0 then (n : Int) + m else n).toNat else none := rfl
  have e1 : (if (n : Int) < 0 then (n : Int) + m else n) = (n : Int) := if_neg (by omega)
  rw [e, e1, if_pos (by simp; omega)]
  simp
theorem ixN_nat {n m : Nat} (h : n < m) : ixN m (Int.ofNat n) = some n := by
  unfold ixN
  simp only [Int.ofNat_eq_natCast]
  rw [if_pos (by omega), if_pos (by omega)]
  simp
noncomputable def MOut (K : Frag) (cx : Cls2) (H : Hp) (a : Addr) (c' : Cn) (H' : Hp) : Prop := ∃ h', H' = upd H a h' ∧ CnR K cx H' c' (.ref a) ∧ ∀ o, H a = some o → seqish o = false
noncomputable def mOf (K : Frag) (cx : Cls2) (m : M) : V → List V → Hp → VK → Prop := fun x vs H Q => ∃ S c a xs, Rel K cx S H ∧ x = .ref a ∧ CnR K cx H c (.ref a) ∧ Paired (RepX K H S) xs vs ∧
  mutC m c xs S fun c' r => ∀ H' v, MOut K cx H a c' H' → RepV K H' r v → Q v H'
theorem lst_tups {K : Frag} {H : Hp} {a : Addr} {xs : List V} {h : HO} (hp : H a = some (.lst xs)) : TupS K H (upd H a h) := tupS_upd fun o e => by rw [hp] at e; cases e; rfl
theorem dic_tups {K : Frag} {H : Hp} {a : Addr} {xs : List (Key × V)} {h : HO} (hp : H a = some (.dK xs)) : TupS K H (upd H a h) := tupS_upd fun o e => by rw [hp] at e; cases e; rfl
theorem mout_l {K : Frag} {H : Hp} {a : Addr} {xs ys : List V} {ds : List D} (hp : H a = some (.lst xs)) (r : RepL K H ds ys) : MOut K cx H a (.l ds) (upd H a (.lst ys)) :=
  ⟨_, rfl, ⟨a, ys, rfl, upd_same, r.keep (lst_tups hp)⟩, fun o e => by rw [hp] at e; cases e; rfl⟩
theorem mout_k {K : Frag} {H : Hp} {a : Addr} {xs ys : List (Key × V)} {ds : List (D × D)} (hp : H a = some (.dK xs)) (r : DicR K H ds ys) : MOut K cx H a (.k ds) (upd H a (.dK ys)) :=
  ⟨_, rfl, ⟨a, ys, rfl, upd_same, r.keep (dic_tups hp)⟩, fun o e => by rw [hp] at e; cases e; rfl⟩
theorem mut_append : MtR X "list.append" (mOf X.K cx .append) := by
  intro pins s σ H x vs v us Q I rx rv w
  obtain ⟨S, c, a, xs, hr, rfl, hc, ra, w⟩ := w
  unfold mutC at w
  split at w <;> first | (rename_i h1 _; cases h1; done) | (rename_i h1; cases h1; done) | exact w.elim | skip
  obtain ⟨p, ys, e, hp, r1⟩ := hc
  cases e
  cases ra with
  | cons q t =>
    cases t
    exact mt_append pins s σ H _ _ v us Q I rx rv ⟨a, ys, _, rfl, rfl, hp, by rw [← r1.length]; exact w.1, w.2 _ _ (mout_l hp (r1.append (RepL.cons q RepL.nil))) rfl⟩
theorem mut_pop : MtR X "list.pop" (mOf X.K cx .pop) := by
  intro pins s σ H x vs v us Q I rx rv w
  obtain ⟨S, c, a, xs, hr, rfl, hc, ra, w⟩ := w
  unfold mutC at w
  split at w <;> first | (rename_i h1 _; cases h1; done) | (rename_i h1; cases h1; done) | exact w.elim | skip
  obtain ⟨p, ys, e, hp, r1⟩ := hc
  cases e
  cases ra
  obtain ⟨y, e, w⟩ := w
  obtain ⟨yv, h1, h2⟩ := r1.get e
  exact mt_pop pins s σ H _ _ v us Q I rx rv ⟨a, ys, yv, rfl, rfl, hp, by rw [← r1.length]; exact h1, w _ _ (mout_l hp r1.dropLast) (h2.keep (lst_tups hp))⟩
theorem mut_popAt : MtR X "list.pop" (mOf X.K cx .popAt) := by
  intro pins s σ H x vs v us Q I rx rv w
  obtain ⟨S, c, a, xs, hr, rfl, hc, ra, w⟩ := w
  unfold mutC at w
  split at w <;> first | (rename_i h1 _; cases h1; done) | (rename_i h1; cases h1; done) | exact w.elim | skip
  obtain ⟨p, ys, e, hp, r1⟩ := hc
  cases e
  cases ra with
  | cons q t =>
    cases t
    obtain ⟨y, e, w⟩ := w
    obtain ⟨yv, h1, h2⟩ := r1.get e
    cases q
    obtain ⟨z, its, n, r, hl, e⟩ := I.lstM hp
    have hn := (List.getElem?_eq_some_iff.mp h1).1
    have hl2 := line63
    refine mt_popAt pins s σ H _ _ v us Q I rx rv ⟨a, ys, _, _, yv, rfl, rfl, hp, ?_, ?_, ?_, h1, w _ _ (mout_l hp (r1.eraseIdx _)) (h2.keep (lst_tups hp))⟩
    · exact Int.le_trans (by decide) (Int.natCast_nonneg _)
    · show ((_ : Nat) : Int) < 2 ^ 63
      omega
    · exact seqIx_nat hn
theorem mut_remove : MtR X "list.remove" (mOf X.K cx .remove) := by
  intro pins s σ H x vs v us Q I rx rv w
  obtain ⟨S, c, a, xs, hr, rfl, hc, ra, w⟩ := w
  unfold mutC at w
  split at w <;> first | (rename_i h1 _; cases h1; done) | (rename_i h1; cases h1; done) | exact w.elim | skip
  obtain ⟨p, ys, e, hp, r1⟩ := hc
  cases e
  obtain ⟨ns, j, e1, e2, e3, w⟩ := w
  subst e1
  have ey := r1.ints
  subst ey
  cases ra with
  | cons q t =>
    cases t
    cases q
    exact mt_remove pins s σ H _ _ v us Q I rx rv ⟨a, ns, _, j, rfl, rfl, hp, e2, e3, w _ _ (mout_l hp (RepL.ofInts _)) rfl⟩
theorem mut_insert : MtR X "list.insert" (mOf X.K cx .insert) := by
  intro pins s σ H x vs v us Q I rx rv w
  obtain ⟨S, c, a, xs, hr, rfl, hc, ra, w⟩ := w
  unfold mutC at w
  split at w <;> first | (rename_i h1 _; cases h1; done) | (rename_i h1; cases h1; done) | exact w.elim | skip
  obtain ⟨p, ys, e, hp, r1⟩ := hc
  cases e
  cases ra with
  | cons q t =>
    cases t with
    | cons q2 t =>
      cases t
      cases q
      obtain ⟨w1, w2, w⟩ := w
      refine mt_insert pins s σ H _ _ v us Q I rx rv ⟨a, ys, _, _, rfl, rfl, hp, by rw [← r1.length]; exact w1, Int.natCast_nonneg _, ?_, w _ _ (mout_l hp ?_) rfl⟩
      · show ((_ : Nat) : Int) < 2 ^ 63
        omega
      · simp only [Int.ofNat_eq_natCast, Int.toNat_natCast]
        exact ((r1.take _).append (RepL.cons q2 RepL.nil)).append (r1.drop _)
theorem mut_extend : MtR X "list.extend" (mOf X.K cx .extend) := by
  intro pins s σ H x vs v us Q I rx rv w
  obtain ⟨S, c, a, xs, hr, rfl, hc, ra, w⟩ := w
  unfold mutC at w
  split at w <;> first | (rename_i h1 _; cases h1; done) | (rename_i h1; cases h1; done) | exact w.elim | skip
  obtain ⟨p, ys, e, hp, r1⟩ := hc
  cases e
  cases ra with
  | cons q t =>
    cases t
    obtain ⟨c', ⟨es, rfl, hz, w⟩, hc'⟩ := view_of hr q w
    obtain ⟨p', zs, rfl, hp', r2⟩ := hc'
    exact mt_extend pins s σ H _ _ v us Q I rx rv ⟨a, p', ys, zs, rfl, rfl, hp, hp', by rw [← r1.length, ← r2.length]; exact hz, w _ _ (mout_l hp (r1.append r2)) rfl⟩
theorem mut_clear : MtR X "list.clear" (mOf X.K cx .clear) := by
  intro pins s σ H x vs v us Q I rx rv w
  obtain ⟨S, c, a, xs, hr, rfl, hc, ra, w⟩ := w
  unfold mutC at w
  split at w <;> first | (rename_i h1 _; cases h1; done) | (rename_i h1; cases h1; done) | exact w.elim | skip
  obtain ⟨p, ys, e, hp, r1⟩ := hc
  cases e
  cases ra
  exact mt_clear pins s σ H _ _ v us Q I rx rv ⟨a, ys, rfl, rfl, hp, w _ _ (mout_l hp RepL.nil) rfl⟩
noncomputable def pset (K : Frag) (cx : Cls2) : TSet := fun x i v H Q => ∃ S c a kd vd, Rel K cx S H ∧ x = .ref a ∧ CnR K cx H c (.ref a) ∧ RepV K H kd i ∧ RepV K H vd v ∧
  mutC .setI c [.d kd, .d vd] S fun c' _ => ∀ H', MOut K cx H a c' H' → Q H'
theorem ixN_back {n m : Nat} (h : n < m) : ixN m (Int.negSucc n) = some (m - (n + 1)) := by
  unfold ixN
  rw [if_neg (by omega), if_pos (by omega)]
  congr 1
  omega
theorem pset_ok (hu : X.A.units + 65 < cLine) (hw : cx.w = X.w) : PSet X (pset X.K cx) := by
  intro pins s σ H o i v ov iv u Q I ro ri rv w
  obtain ⟨S, c, a, kd, vd, hr, rfl, hc, rk, rw', w⟩ := w
  unfold mutC at w
  split at w <;> first | (rename_i h1 _; cases h1; done) | (rename_i h1; cases h1; done) | exact w.elim | skip
  · rename_i h2
    cases h2
    obtain ⟨p, ys, e, hp, r1⟩ := hc
    cases e
    cases rk
    refine set_list pins s σ H _ _ v ov iv u Q I ro ri rv ⟨a, ys, _, _, rfl, rfl, hp, ?_, w.2 _ (mout_l hp (r1.set _ rw'))⟩
    exact ixN_nat (by rw [← r1.length]; exact w.1)
  · rename_i h2
    cases h2
    obtain ⟨p, ys, e, hp, r1⟩ := hc
    cases e
    cases rk
    refine set_list pins s σ H _ _ v ov iv u Q I ro ri rv ⟨a, ys, _, _, rfl, rfl, hp, ?_, w.2 _ (mout_l hp (r1.set _ rw'))⟩
    rw [r1.length]
    exact ixN_back (by rw [← r1.length]; exact w.1)
  · rename_i h2
    cases h2
    obtain ⟨p, ks, e, hp, r1⟩ := hc
    cases e
    cases ro
    have ex := key_rel w.1 rk
    subst ex
    exact d_setItem (by omega) I (DPut.k hp (by rw [← r1.length]; exact w.2.1)) ri rv fun s' I' => ⟨_, I', w.2.2 _ (mout_k hp (r1.put w.1 rw'))⟩
  · rename_i h2
    cases h2
    obtain ⟨p, ks, e, hp, r1⟩ := hc
    cases e
    cases ro
    rw [hw] at hp
    refine dn_setItem (by omega) I hp r1 w.2.1 w.1 rk ri rw' rv fun xs' s' I' r' => ⟨_, I', w.2.2 _ ⟨_, rfl, ⟨a, xs', rfl, by rw [hw]; exact upd_same, r'⟩, fun o e => by rw [hp] at e; cases e; rfl⟩⟩
end
end DL
namespace L2.DX
open PySem PySem.Spec PyProof.Rows L2
noncomputable def pairAt (h : Heap) : Value → Int × Int
  | .ref b => match h.get? b with
    | some o => match o.data with
      | .seq a _ => match a.toList with
        | [.int x _, .int y _] => (x, y)
        | _ => (0, 0)
      | _ => (0, 0)
    | none => (0, 0)
  | _ => (0, 0)
noncomputable def entI (p : Int × Int) : Key × V := (Sum.inl p.1, V.int p.2)
theorem pairs_get {P : Program} {w : World} {K : Type} [DecidableEq K] {knd : KeyKind P w K} : ∀ {es : List DictEntry} {kvs : List (K × Value)}, Pairs knd es kvs → es.length = kvs.length ∧ ∀ (j : Nat) (k : K) (v : Value), kvs[j]? = some (k, v) → ∃ e, es[j]? = some e ∧ knd.is k e.key = true ∧ e.val = v := by
  intro es kvs h
  induction h with
  | nil => exact ⟨rfl, fun j k v e => by simp at e⟩
  | cons hk hv hr ih =>
    refine ⟨by simp [ih.1], fun j k v e => ?_⟩
    cases j with
    | zero => simp at e; subst e; exact ⟨_, rfl, hk, hv⟩
    | succ j =>
      obtain ⟨e', h1, h2, h3⟩ := ih.2 j k v (by simpa using e)
      exact ⟨e', by simpa using h1, h2, h3⟩
noncomputable def tSIt (td : TE) : TE := fun σ H Q => td σ H fun x H1 => ∃ (a : Addr) (ps : List (Int × Int)), x = .ref a ∧ H1 a = some (.dK (ps.map entI)) ∧ ps.length ≤ 1000 ∧
  ∀ (qs : List (Int × Int)) (ts : List Addr) (l : Addr) (H2 : Hp), qs.Perm ps → qs.Pairwise (fun p q => SrtO.lexB q p = false) → (∀ b o, H1 b = some o → H2 b = some o) → H1 l = none → H2 l = some (.lst (ts.map V.ref)) →
    Paired (fun (t : Addr) (q : Int × Int) => H2 t = some (.tup [.int q.1, .int q.2])) ts qs → Q (.ref l) H2
theorem pe_sItems {X : Cx} {e : Expr} {td : TE} {p apos cpos pos : Pos} (hc : X.calm = true) (hg : Gl X "sorted") (hm : X.mg "sorted" = none) (he : PE X e td)
    (hbase : attributeBase e "items" X.env (eval e X.env) = eval e X.env) (hline : (apos.endLine == cpos.line) = true)
    (na : starEach [(.Call (.Attribute e "items" apos) [] [] cpos : Expr)] X.env = (false, eval (.Call (.Attribute e "items" apos) [] [] cpos) X.env) :: starEach [] X.env := by rfl) :
    PE X (.Call (.Name "sorted" p) [.Call (.Attribute e "items" apos) [] [] cpos] [] pos) (tSIt td) := by
  refine ⟨fun pins s σ H Q I h => ?_⟩
  refine Call_ (ld_blt I hg hm PyProof.Rows.boot_sorted ?_)
  refine PyProof.Rows.callWith_builtin1 (PyProof.Rows.args_cons ?_ na) na rfl
  refine wpAny_Call_method (T := "dict") (id := "dict.items") hbase rfl hline F.plainAttrs_dict F.slot_dict_items F.type_dict_items (thn (he.run pins s σ H _ I h) fun u s1 ⟨x, H1, I1, rx, a, ps, ex, ha, h1000, q⟩ => ?_)
  subst ex
  obtain rfl : u = Value.ref a := rx
  obtain ⟨hz, hsm, vs, kv, o, es, ep, ho, hx, hdat, hko, hpr, hnd⟩ := I1.hok a _ ha
  obtain ⟨l1, hget⟩ := pairs_get hpr
  have l2 : (ps.map entI).length = vs.length := Paired.length kv
  rw [List.length_map] at l2
  have les : es.size = ps.length := by rw [← Array.length_toList, l1, ← l2]
  have hh : X.A.handled = none := I1.ok.hd hc
  have hdo : s1.heap.DictOf (mixKind X.prog X.w) a vs := ⟨o, es, ep, ho, hx, hdat, hko, hpr, hnd⟩
  refine ⟨hdo.typeIs, hdo.mapOf.noDict, ?_⟩
  have hvw : (s1.heap.push { cls := .type "dict_items", data := .fields #[.ref a] }).get? s1.heap.objs.size = some { cls := .type "dict_items", data := .fields #[.ref a] } := Heap.get?_push_size _ rfl
  have kv0 : ∀ b ob, s1.heap.get? b = some ob → (s1.heap.push { cls := .type "dict_items", data := .fields #[.ref a] }).get? b = some ob := fun b ob q => Heap.get?_push_of_some _ q
  show wpAny _ _ (callWith cpos (.builtin "dict.items") [.ref a] [] []) _ X.xe s1
  refine method_meetsIn F.slot_dict_items F.entry_dict_items rfl (PySem.evalArgs_none ⟨rfl, hdo.typeIs, F.args_dict_items_1 _, _, meets_dict_items (mixKind X.prog X.w) a hsm, ⟨vs, hdo⟩, ?_⟩)
  refine PyProof.Rows.args_nil ?_
  have I2 : Inv X pins σ H1 { s1 with heap := s1.heap.push { cls := .type "dict_items", data := .fields #[.ref a] } } := I1.kept (t' := s1.toks) kv0
  have hsz : (s1.heap.push { cls := .type "dict_items", data := .fields #[.ref a] }).objs.size = s1.heap.objs.size + 1 := Heap.size_push ..
  refine DT.sortedI (es := es) (ep := ep) (d := a) (r := s1.heap.objs.size) hh ⟨_, hvw, rfl, rfl⟩ ⟨o, kv0 _ _ ho, hx, hdat⟩ (by rw [les, sizeLine_eq]; omega) fun h' tk as hk hlt hl hG => ?_
  have lak : as.length = ps.length := by omega
  have nd : as.Nodup := List.Pairwise.imp (fun h => Nat.ne_of_lt h) hG.rise
  -- the pairs that were made
  have pr : ∀ (j : Nat) (b : Addr), as[j]? = some b → ∃ (p : Int × Int) (t1 t2 : Nat), ps[j]? = some p ∧ h'.get? b = some { cls := .type "tuple", data := .seq #[Value.int p.1 t1, Value.int p.2 t2] } := by
    intro j b hj
    obtain ⟨en, he, hg⟩ := hG.pairs j b hj
    have hjp : j < ps.length := by rw [← lak]; exact (List.getElem?_eq_some_iff.mp hj).1
    have e1 : (ps.map entI)[j]? = some (Sum.inl ps[j].1, V.int ps[j].2) := by rw [List.getElem?_map, List.getElem?_eq_getElem hjp]; rfl
    obtain ⟨u, hu, ru⟩ := kv_get kv e1
    obtain ⟨en', h1, h2, h3⟩ := hget j _ _ hu
    rw [← Array.getElem?_toList] at he
    rw [he] at h1
    cases h1
    obtain ⟨t2, rfl⟩ := ru
    rcases keyIs_shape (show keyIs (Sum.inl ps[j].1) en.key = true from h2) with ⟨i, t1, e2, e3⟩ | ⟨x, t1, e2, e3⟩
    · cases e2
      exact ⟨ps[j], t1, t2, List.getElem?_eq_getElem hjp, by rw [hg, e3, h3]⟩
    · cases e2
  -- the heap of the sort
  have hob : (h'.push { cls := .type "list", data := .seq (as.map Value.ref).toArray }).get? h'.objs.size = some (seqObj "list" (as.map Value.ref).toArray 0) := Heap.get?_push_size _ rfl
  have kb : ∀ b o, s1.heap.get? b = some o → (h'.push { cls := .type "list", data := .seq (as.map Value.ref).toArray }).get? b = some o := fun b o e => Heap.get?_push_of_some _ (hk b o (kv0 b o e))
  have ne0 : ∀ b o, h'.get? b = some o → b ≠ h'.objs.size := fun b o e => Nat.ne_of_lt (Heap.lt_size e)
  have hlt1 : s1.heap.objs.size < h'.objs.size := by
    have : s1.heap.objs.size + 1 < h'.objs.size := by rw [← hsz]; exact hlt
    omega
  generalize hh2 : h'.push { cls := .type "list", data := .seq (as.map Value.ref).toArray } = h2 at hob kb ⊢
  have ka : ∀ b o, h'.get? b = some o → h2.get? b = some o := fun b o e => by rw [← hh2]; exact Heap.get?_push_of_some _ e
  have pat : ∀ (j : Nat) (b : Addr) (p : Int × Int), as[j]? = some b → ps[j]? = some p → pairAt h2 (.ref b) = p ∧ Srt.IsPair h2 (.ref b) p.1 p.2 := by
    intro j b p hj hp
    obtain ⟨p', t1, t2, hp', hg⟩ := pr j b hj
    rw [hp] at hp'
    cases hp'
    have hg2 := ka _ _ hg
    refine ⟨?_, ⟨b, _, t1, t2, _, rfl, hg2, rfl, rfl⟩⟩
    show (match h2.get? b with | some o => (match o.data with | .seq a _ => (match a.toList with | [.int x _, .int y _] => (x, y) | _ => (0, 0)) | _ => (0, 0)) | none => (0, 0)) = p
    rw [hg2]
  have at_ : ∀ v ∈ as.map Value.ref, ∃ (j : Nat) (b : Addr) (p : Int × Int), v = .ref b ∧ as[j]? = some b ∧ ps[j]? = some p := by
    intro v hv'
    obtain ⟨b, hb, rfl⟩ := List.mem_map.mp hv'
    obtain ⟨j, hj⟩ := List.mem_iff_getElem?.mp hb
    obtain ⟨p, _, _, hp, _⟩ := pr j b hj
    exact ⟨j, b, p, rfl, hj, hp⟩
  have hps : ∀ v ∈ as.map Value.ref, Srt.IsPair h2 v (pairAt h2 v).1 (pairAt h2 v).2 := by
    intro v hv'
    obtain ⟨j, b, p, rfl, hj, hp⟩ := at_ v hv'
    obtain ⟨e1, e2⟩ := pat j b p hj hp
    rw [e1]; exact e2
  refine wpAny_call_entry PyProof.Rows.slot_list_sort ⟨_, hob, rfl⟩ PyProof.Rows.entry_list_sort
    (SrtO.list_sort_ord (s := { s1 with heap := h2, toks := tk }) (SrtO.swo_lex (pairAt h2)) hob (by rw [List.length_map, lak, sizeLine_eq]; omega) (fun h2' => SrtO.pairs_sortableO (by rw [List.length_map] at h2'; simp; omega) hps fun o e => ?_) fun out o1 o2 => ⟨.none, rfl, ?_⟩) (PyProof.Rows.args_list_sort _)
  · have e' : some o = some (seqObj "list" (as.map Value.ref).toArray 0) := e.symm.trans hob
    cases e'
    intro c
    exact absurd (Value.type.inj c) (by decide)
  show EP X pins σ Q (.ref h'.objs.size) { s1 with heap := sortedHeap h2 h'.objs.size (as.map Value.ref) out.toArray, toks := tk }
  obtain ⟨zs, pz, ez⟩ := perm_lift (fun z : Addr × Int × Int => Value.ref z.1) o2.perm (as.zip ps) (by
    rw [show (fun z : Addr × Int × Int => Value.ref z.1) = Value.ref ∘ Prod.fst from rfl, ← List.map_map, List.map_fst_zip (by omega)])
  have idx : ∀ z ∈ zs, ∃ j : Nat, as[j]? = some z.1 ∧ ps[j]? = some z.2 := by
    intro z' hz'
    obtain ⟨j, hj⟩ := List.mem_iff_getElem?.mp (pz.mem_iff.mp hz')
    exact ⟨j, List.getElem?_zip_eq_some.mp hj⟩
  have hperm : (zs.map (·.2)).Perm ps := by
    have e := pz.map (·.2)
    have m2 : (as.zip ps).map (·.2) = ps := List.map_snd_zip (by omega)
    rw [m2] at e
    exact e
  have hsort : (zs.map (·.2)).Pairwise (fun p q => SrtO.lexB q p = false) := by
    have o1' : (zs.map fun z => Value.ref z.1).Pairwise (fun x y => SrtO.lexB (pairAt h2 y) (pairAt h2 x) = false) := by rw [ez]; exact o1
    rw [List.pairwise_map] at o1' ⊢
    refine List.Pairwise.imp_of_mem (fun {x y} hx hy h => ?_) o1'
    obtain ⟨j, j1, j2⟩ := idx x hx
    obtain ⟨i, i1, i2⟩ := idx y hy
    have h' : SrtO.lexB (pairAt h2 (.ref y.1)) (pairAt h2 (.ref x.1)) = false := h
    rw [(pat j _ _ j1 j2).1, (pat i _ _ i1 i2).1] at h'
    exact h'
  -- behind the sort
  have kF : ∀ b o, b ≠ h'.objs.size → h2.get? b = some o → (sortedHeap h2 h'.objs.size (as.map Value.ref) out.toArray).get? b = some o := fun b o hb e => (PyProof.Rows.sortedHeap_old hb (Heap.lt_size e)).trans e
  have kS : ∀ b o, s1.heap.get? b = some o → (sortedHeap h2 h'.objs.size (as.map Value.ref) out.toArray).get? b = some o := fun b o e => kF b o (ne0 _ _ (hk b o (kv0 b o e))) (kb b o e)
  obtain ⟨eF, heF⟩ := PyProof.Rows.sortedHeap_at (vs := as.map Value.ref) (out := out.toArray) hob
  have I3 : Inv X pins σ H1 { s1 with heap := sortedHeap h2 h'.objs.size (as.map Value.ref) out.toArray, toks := tk } := I1.kept (t' := tk) kS
  have hn0 : H1 h'.objs.size = none := I1.hok.fresh (Nat.le_of_lt hlt1)
  have hlen : (zs.map fun z => V.ref z.1).length ≤ sizeLine := by
    have e := hperm.length_eq
    rw [List.length_map] at e
    rw [List.length_map, sizeLine_eq]
    omega
  have rv : Vals (zs.map fun z => V.ref z.1) out := by
    rw [← ez]
    exact vals_maps (fun z : Addr × Int × Int => V.ref z.1) (fun z => Value.ref z.1) zs fun _ _ => rfl
  have I4 : Inv X pins σ (upd H1 h'.objs.size (.lst (zs.map fun z => V.ref z.1))) { s1 with heap := sortedHeap h2 h'.objs.size (as.map Value.ref) out.toArray, toks := tk } :=
    I3.take (h' := sortedHeap h2 h'.objs.size (as.map Value.ref) out.toArray) (t' := tk) (fun b ob _ e => e) (I1.fpOk (Nat.le_of_lt hlt1) hn0) ⟨hlen, out, eF, rv, heF⟩
  obtain ⟨H2, I5, g, qt⟩ := takeT (P := fun b vs => ∃ (j : Nat) (p : Int × Int), as[j]? = some b ∧ ps[j]? = some p ∧ vs = [.int p.1, .int p.2]) I1 as _ I4 nd fun b hb => by
    obtain ⟨j, hj⟩ := List.mem_iff_getElem?.mp hb
    obtain ⟨p, t1, t2, hp, hg⟩ := pr j b hj
    have hbl : s1.heap.objs.size ≤ b := by
      have h9 : s1.heap.objs.size + 1 < b := by rw [← hsz]; exact hG.above b hb
      omega
    refine ⟨hbl, ?_, [.int p.1, .int p.2], ⟨j, p, hj, hp, rfl⟩, fun H3 => ⟨(by rw [sizeLine_eq]; show 2 ≤ 16777216; omega), [Value.int p.1 t1, Value.int p.2 t2], .cons ⟨t1, rfl⟩ (.cons ⟨t2, rfl⟩ .nil), ⟨_, kF _ _ (ne0 _ _ hg) (ka _ _ hg), rfl, 0, rfl⟩⟩⟩
    rw [upd_ne (ne0 _ _ hg)]
    exact I1.hok.fresh hbl
  have gr : ∀ b o, H1 b = some o → H2 b = some o := fun b o e => g b o (by rw [upd_ne (ne_of_none e hn0)]; exact e)
  have el : (zs.map fun z => V.ref z.1) = (zs.map (·.1)).map V.ref := by rw [List.map_map]; rfl
  refine ⟨.ref h'.objs.size, H2, I5, rfl, q (zs.map (·.2)) (zs.map (·.1)) h'.objs.size H2 hperm hsort gr hn0 (by rw [← el]; exact g _ _ upd_same) ?_⟩
  have key : ∀ l : List (Addr × Int × Int), (∀ z ∈ l, z ∈ zs) → Paired (fun (t : Addr) (q : Int × Int) => H2 t = some (.tup [.int q.1, .int q.2])) (l.map (·.1)) (l.map (·.2)) := by
    intro l
    induction l with
    | nil => intro _; exact .nil
    | cons z l ih =>
      intro hm
      refine .cons ?_ (ih fun y hy => hm y (List.mem_cons_of_mem _ hy))
      obtain ⟨i, i1, i2⟩ := idx z (hm z List.mem_cons_self)
      obtain ⟨vs, ⟨j, p, j1, j2, ev⟩, hH⟩ := qt z.1 (List.mem_of_getElem? i1)
      have eij : i = j := (List.getElem?_inj (List.getElem?_eq_some_iff.mp i1).1 nd).mp (i1.trans j1.symm)
      subst eij
      have ee : p = z.2 := Option.some.inj (j2.symm.trans i2)
      rw [ev, ee] at hH
      exact hH
  exact key zs fun z h => h
end L2.DX
namespace DL
open PySem L2 PySem.Spec PyProof.Rows
section
variable {X : Cx} {cx : Cls2}
theorem lex_lt {p q : Int × Int} (h : SrtO.lexB p q = false) : ¬ ltP2 p q := SrtO.lexB_no.mp h
theorem reps_pairs {K : Frag} {H : Hp} : ∀ {ps : List (Int × Int)} {vs : List V}, RepL K H (ps.map pairD) vs → Paired (fun (p : Int × Int) (v : V) => ∃ t, v = .ref t ∧ SqT K H t [.int p.1, .int p.2]) ps vs
  | [], _, e => by cases e; exact .nil
  | p :: ps, _, ⟨v, vr, e, r, rr⟩ => by
    subst e
    obtain ⟨t, us, rfl, h, ru⟩ := r
    obtain ⟨u1, r1, rfl, h1, h2⟩ := ru
    obtain ⟨u2, r2, rfl, h3, h4⟩ := h2
    cases h1; cases h3; cases h4
    exact .cons ⟨t, rfl, h⟩ (reps_pairs rr)
theorem call1_sortedP : CallR X (.builtin "sorted") (c1of X.K cx .sortedP) := by
  intro pins s σ H xs us Q I r w
  obtain ⟨v, rfl, S, a, hr, ra, w⟩ := w
  obtain ⟨c, w, hc⟩ := view_of hr ra w
  obtain ⟨ps, rfl, k⟩ := w
  obtain ⟨p, vs, rfl, hp, r1⟩ := hc
  have pr := reps_pairs r1
  obtain ⟨its, rv, hl, hz⟩ := I.list (SqL.of hp)
  obtain ⟨u, rfl, ru⟩ := vals1 r
  obtain rfl : u = Value.ref p := ru
  have isref : ∀ x ∈ vs, ∃ t, x = V.ref t := by
    intro x hx
    obtain ⟨j, hj⟩ := List.mem_iff_getElem?.mp hx
    have : ∀ {ps : List (Int × Int)} {vs : List V}, Paired (fun (p : Int × Int) (v : V) => ∃ t, v = .ref t ∧ SqT X.K H t [.int p.1, .int p.2]) ps vs → ∀ x ∈ vs, ∃ t, x = V.ref t := by
      intro ps vs h
      induction h with
      | nil => intro x hx; cases hx
      | cons h _ ih =>
        intro x hx
        rcases List.mem_cons.mp hx with rfl | hx
        · obtain ⟨t, e, _⟩ := h; exact ⟨t, e⟩
        · exact ih x hx
    exact this pr x hx
  obtain ⟨e1, e2⟩ := refs_back rv isref
  -- each value of the list
  have at_ : ∀ {ps : List (Int × Int)} {us : List Value}, Paired (fun (p : Int × Int) (v : V) => ∃ t, v = .ref t ∧ SqT X.K H t [.int p.1, .int p.2]) ps (us.map backV) → (∀ u ∈ us, ∃ t, u = Value.ref t) →
      ps = us.map (L2.DX.pairAt s.heap) ∧ ∀ u ∈ us, Srt.IsPair s.heap u (L2.DX.pairAt s.heap u).1 (L2.DX.pairAt s.heap u).2 ∧ RepV X.K H (pairD (L2.DX.pairAt s.heap u)) (backV u) := by
    intro ps us
    induction us generalizing ps with
    | nil => intro h _; cases h; exact ⟨rfl, fun u hu => by cases hu⟩
    | cons u us ih =>
      intro h hu
      cases h with
      | cons h t =>
        rename_i p ps
        obtain ⟨i1, i2⟩ := ih t fun u hu' => hu u (List.mem_cons_of_mem _ hu')
        obtain ⟨b, rfl⟩ := hu u List.mem_cons_self
        obtain ⟨b', eb, hq⟩ := h
        cases eb
        obtain ⟨its2, rv2, ⟨o, ho, hcl, n, hd⟩, _⟩ := I.tuple hq
        obtain ⟨u1, u2, rfl, ri, rj⟩ := vals2 rv2
        obtain ⟨t1, rfl⟩ := ri
        obtain ⟨t2, rfl⟩ := rj
        have ep : L2.DX.pairAt s.heap (.ref b) = p := by
          show (match s.heap.get? b with | some o => (match o.data with | .seq a _ => (match a.toList with | [.int x _, .int y _] => (x, y) | _ => (0, 0)) | _ => (0, 0)) | none => (0, 0)) = p
          rw [ho]
          show (match o.data with | .seq a _ => (match a.toList with | [.int x _, .int y _] => (x, y) | _ => (0, 0)) | _ => (0, 0)) = p
          rw [hd]
        have one : Srt.IsPair s.heap (.ref b) (L2.DX.pairAt s.heap (.ref b)).1 (L2.DX.pairAt s.heap (.ref b)).2 ∧ RepV X.K H (pairD (L2.DX.pairAt s.heap (.ref b))) (backV (.ref b)) := by
          rw [ep]
          exact ⟨⟨b, o, t1, t2, n, rfl, ho, hcl, hd⟩, b, [.int p.1, .int p.2], rfl, hq, .cons rfl (.cons rfl .nil)⟩
        refine ⟨by rw [List.map_cons, ep, i1], fun u hu' => ?_⟩
        rcases List.mem_cons.mp hu' with rfl | hu'
        · exact one
        · exact i2 u hu'
  rw [e1] at pr
  obtain ⟨ep, each⟩ := at_ pr e2
  refine SrtO.sorted_pairsO (k := L2.DX.pairAt s.heap) hl.isList (by rw [← rv.length]; exact hz) (fun v hv => (each v hv).1) fun h' d out h1 h2 kp hd hn => ?_
  have h3 : ∀ u ∈ out, ∃ a, u = Value.ref a := fun u hu => e2 u (h2.perm.mem_iff.mp hu)
  obtain ⟨n, hn⟩ := hn
  have hln : (out.map backV).length ≤ sizeLine := by
    rw [List.length_map, h2.perm.length_eq, ← rv.length]
    exact hz
  refine ⟨.ref d, upd H d (.lst (out.map backV)), I.laid (t' := s.toks) kp hd ⟨hln, out, n, vals_back h3, hn⟩, rfl, ?_⟩
  refine fin_vl (k (out.map (L2.DX.pairAt s.heap)) ?_ ?_) hr ?_ d (I.hok.fresh hd)
  · rw [ep]; exact h2.perm.map _
  · show List.Pairwise _ _
    rw [List.pairwise_map]
    exact h1.imp fun h => lex_lt h
  · have key : ∀ l : List Value, (∀ u ∈ l, u ∈ out) → RepL X.K H ((l.map (L2.DX.pairAt s.heap)).map pairD) (l.map backV) := by
      intro l
      induction l with
      | nil => intro _; exact .nil
      | cons u l ih => exact fun hm => .cons (each u (h2.perm.mem_iff.mp (hm u List.mem_cons_self))).2 (ih fun x hx => hm x (List.mem_cons_of_mem _ hx))
    exact key out fun u hu => hu
theorem call1_sum (hcalm : X.calm = true) : CallR X (.builtin "sum") (c1of X.K cx .sum) := by
  intro pins s σ H xs us Q I r w
  obtain ⟨v, rfl, S, a, hr, ra, w⟩ := w
  obtain ⟨c, w, hc⟩ := view_of hr ra w
  obtain ⟨ns, rfl, k⟩ := w
  obtain ⟨p, vs, rfl, hp, r1⟩ := hc
  have e := r1.ints
  subst e
  exact cr_sum hcalm pins s σ H _ us Q I r ⟨p, ns, rfl, SqL.of hp, fin_int k hr⟩
theorem call1_max (hcalm : X.calm = true) : CallR X (.builtin "max") (c1of X.K cx .maxl) := by
  intro pins s σ H xs us Q I r w
  obtain ⟨v, rfl, S, a, hr, ra, w⟩ := w
  obtain ⟨c, w, hc⟩ := view_of hr ra w
  obtain ⟨ns, rfl, h0, k⟩ := w
  obtain ⟨p, vs, rfl, hp, r1⟩ := hc
  have e := r1.ints
  subst e
  exact cr_max hcalm pins s σ H _ us Q I r ⟨p, ns, rfl, SqL.of hp, h0, fun m h1 h2 => fin_int (k m h1 h2) hr⟩
theorem call1_min (hcalm : X.calm = true) : CallR X (.builtin "min") (c1of X.K cx .minl) := by
  intro pins s σ H xs us Q I r w
  obtain ⟨v, rfl, S, a, hr, ra, w⟩ := w
  obtain ⟨c, w, hc⟩ := view_of hr ra w
  obtain ⟨ns, rfl, h0, k⟩ := w
  obtain ⟨p, vs, rfl, hp, r1⟩ := hc
  have e := r1.ints
  subst e
  exact cr_min hcalm pins s σ H _ us Q I r ⟨p, ns, rfl, SqL.of hp, h0, fun m h1 h2 => fin_int (k m h1 h2) hr⟩
end
section
variable {X : Cx}
noncomputable def tSet2 (K : Frag) (k : Bool) (ta : TE) : TE := fun σ H Q => ta σ H fun x H1 => ∃ (l : Addr) (ns : List Int), x = V.ref l ∧ SqT K H1 l (ns.map V.int) ∧ ns.length < 64 ∧
  ∀ ms : List Int, ms.Nodup → (k = true → ms.Pairwise (· < ·)) → (∀ j, j ∈ ms ↔ j ∈ ns) → (k = true → ∀ p, H1 p = none → Q (.ref p) (upd H1 p (.lst (ms.map V.int)))) ∧ (k = false → Q (.int ms.length) H1)
theorem vals_ints : ∀ {l : List Value} {ns : List Int}, IntsAre l ns → Vals (ns.map V.int) l
  | _, _, .nil => .nil
  | _, _, .cons n t h => .cons ⟨t, rfl⟩ (vals_ints h)
theorem pe_sortedSet {a : Expr} {ta : TE} {p p2 q pos : Pos} (hc : X.calm = true) (hg : Gl X "sorted") (hm : X.mg "sorted" = none) (hg2 : Gl X "set") (hm2 : X.mg "set" = none) (ha : PE X a ta)
    (na : starEach [a] X.env = (false, eval a X.env) :: starEach [] X.env) : PE X (.Call (.Name "sorted" p) [.Call (.Name "set" p2) [a] [] q] [] pos) (tSet2 X.K true ta) := by
  refine ⟨fun pins s σ H Q I h => ?_⟩
  refine Call_ (ld_blt I hg hm PyProof.Rows.boot_sorted ?_)
  refine PyProof.Rows.callWith_builtin1 (PyProof.Rows.args_cons ?_ rfl) rfl rfl
  refine Call_ (ld_blt I hg2 hm2 PyProof.Rows.boot_set ?_)
  refine PyProof.Rows.callWith_type1 (PyProof.Rows.args_cons (thn (ha.run pins s σ H _ I h) fun v s1 ⟨x, H1, I1, r1, q1⟩ => PyProof.Rows.args_nil ?_) na) na rfl
  obtain ⟨l, ns, rfl, hq, h1, q1⟩ := q1
  cases r1
  obtain ⟨its, r, pl, hz⟩ := I1.tuple hq
  have hi : IntsAre its.toArray.toList ns := by simpa using r.ints
  refine call_set_tupI ns (I1.ok.hd hc) (show s1.heap.IsTuple l its.toArray from pl) hi (by unfold scanBound; omega) fun h' tk c hS hcn hk => ?_
  refine PyProof.Rows.args_nil ?_
  have I2 : Inv X pins σ H1 { s1 with heap := h', toks := tk } := I1.kept hk
  refine sorted_set (s := { s1 with heap := h', toks := tk }) hS (I1.ok.hd hc) (by omega) fun s' p out c2 ms k g o hp hg hout pw hmem hlen => ?_
  have hn : H1 p = none := I2.hok.fresh hp
  have hv : Vals (ms.map V.int) out.toList := vals_ints hout
  have hml : (ms.map V.int).length ≤ sizeLine := by rw [List.length_map, hlen, sizeLine_eq]; omega
  have J : Inv X pins σ (upd H1 p (.lst (ms.map V.int))) { s1 with heap := s'.heap, gens := s'.gens, drawn := s'.drawn, toks := s'.toks } :=
    Inv.call (s := { s1 with heap := h', toks := tk }) I2 (ch := []) (Un.laid k hp hn) (I2.hok.laid k hp ⟨hml, out.toList, c2, hv, hg⟩) (by rw [g]; exact I2.bare) (fun _ z => nomatch z)
  have e : s' = { s1 with heap := s'.heap, gens := s'.gens, drawn := s'.drawn, toks := s'.toks } := by
    cases s'
    cases s1
    cases o
    rfl
  rw [e]
  exact ⟨.ref p, _, J, rfl, (q1 ms (pw.imp fun h => Int.ne_of_lt h) (fun _ => pw) fun j => by rw [hmem j, decide_eq_true_eq]).1 rfl p hn⟩
theorem pe_lenSetT {a : Expr} {ta : TE} {p p2 q pos : Pos} (hc : X.calm = true) (hg : Gl X "len") (hm : X.mg "len" = none) (hg2 : Gl X "set") (hm2 : X.mg "set" = none) (ha : PE X a ta)
    (na : starEach [a] X.env = (false, eval a X.env) :: starEach [] X.env) : PE X (.Call (.Name "len" p) [.Call (.Name "set" p2) [a] [] q] [] pos) (tSet2 X.K false ta) := by
  refine ⟨fun pins s σ H Q I h => ?_⟩
  refine Call_ (ld_blt I hg hm PySem.boot_len ?_)
  refine PyProof.Rows.callWith_builtin1 (PyProof.Rows.args_cons ?_ rfl) rfl rfl
  refine Call_ (ld_blt I hg2 hm2 PyProof.Rows.boot_set ?_)
  refine PyProof.Rows.callWith_type1 (PyProof.Rows.args_cons (thn (ha.run pins s σ H _ I h) fun v s1 ⟨x, H1, I1, r1, q1⟩ => PyProof.Rows.args_nil ?_) na) na rfl
  obtain ⟨l, ns, rfl, hq, h1, q1⟩ := q1
  cases r1
  obtain ⟨its, r, pl, hz⟩ := I1.tuple hq
  have hi : IntsAre its.toArray.toList ns := by simpa using r.ints
  refine call_set_tupI ns (I1.ok.hd hc) (show s1.heap.IsTuple l its.toArray from pl) hi (by unfold scanBound; omega) fun h' tk c hS hcn hk => ?_
  refine PyProof.Rows.args_nil ?_
  have I2 : Inv X pins σ H1 { s1 with heap := h', toks := tk } := I1.kept hk
  obtain ⟨o, es, ep, t, ho, hex, hd, hgd, nd, hm2, hb, hf, hn, hr, hl⟩ := hS
  have hz2 : es.size = c := by rw [← hn]
  refine call_len_set ho hex hd hf (by omega) ⟨.int es.size, H1, I2.tok _, ⟨_, rfl⟩, ?_⟩
  have z := (q1 (es.toList.map keyOf) nd (fun e => by cases e) fun j => by rw [← hm2 j, decide_eq_true_eq]).2 rfl
  rw [List.length_map, Array.length_toList] at z
  exact z
end
theorem met_nd (f : Nat → Int) : ∀ i, (firstMet f i).Nodup
  | 0 => List.nodup_nil
  | i + 1 => by
    rw [firstMet_succ]
    unfold step_dedup
    split
    · exact met_nd f i
    · rename_i h
      refine List.nodup_append.mpr ⟨met_nd f i, List.nodup_cons.mpr ⟨List.not_mem_nil, List.nodup_nil⟩, fun x hx y hy e => h ?_⟩
      rw [List.any_eq_true]
      exact ⟨x, hx, by rw [e, List.mem_singleton.mp hy]; exact beq_self_eq_true _⟩
theorem met_mem (ns : List Int) (j : Int) : j ∈ firstMet (fun i => ns.getD i 0) ns.length ↔ j ∈ ns := by
  have h := firstMet_any (fun i => ns.getD i 0) ns.length j
  have e : (List.range ns.length).map (fun i => ns.getD i 0) = ns := by
    refine List.ext_getElem (by simp) fun i h1 h2 => ?_
    simp [List.getD_eq_getElem?_getD, List.getElem?_eq_getElem h2]
  rw [e] at h
  have a1 : ∀ l : List Int, l.any (· == j) = true ↔ j ∈ l := fun l => by
    rw [List.any_eq_true]
    exact ⟨fun ⟨x, hx, e⟩ => by rw [← eq_of_beq e]; exact hx, fun hx => ⟨j, hx, beq_self_eq_true j⟩⟩
  rw [← a1, ← a1, h]
noncomputable def tSlen (K : Frag) (ta : TE) : TE := fun σ H Q => ta σ H fun x H1 => ∃ (l : Addr) (ns : List Int), x = V.ref l ∧ SqL K H1 l (ns.map V.int) ∧ ns.length ≤ 4000 ∧
  ∀ ms : List Int, ms.Nodup → (∀ j, j ∈ ms ↔ j ∈ ns) → Q (.int ms.length) H1
section
variable {X : Cx}
theorem pe_lenSetL {a : Expr} {ta : TE} {p p2 q pos : Pos} (hc : X.calm = true) (hg : Gl X "len") (hm : X.mg "len" = none) (hg2 : Gl X "set") (hm2 : X.mg "set" = none) (ha : PE X a ta)
    (na : starEach [a] X.env = (false, eval a X.env) :: starEach [] X.env) : PE X (.Call (.Name "len" p) [.Call (.Name "set" p2) [a] [] q] [] pos) (tSlen X.K ta) := by
  refine ⟨fun pins s σ H Q I h => ?_⟩
  refine Call_ (ld_blt I hg hm PySem.boot_len ?_)
  refine PyProof.Rows.callWith_builtin1 (PyProof.Rows.args_cons ?_ rfl) rfl rfl
  refine Call_ (ld_blt I hg2 hm2 PyProof.Rows.boot_set ?_)
  refine PyProof.Rows.callWith_type1 (PyProof.Rows.args_cons (thn (ha.run pins s σ H _ I h) fun v s1 ⟨x, H1, I1, r1, q1⟩ => PyProof.Rows.args_nil ?_) na) na rfl
  obtain ⟨l, ns, rfl, hq, h1, q1⟩ := q1
  cases r1
  obtain ⟨its, r, pl, hz⟩ := I1.list hq
  have hl : its.toArray.size = ns.length := by rw [List.size_toArray, ← r.length, List.length_map]
  refine call_set_list (I1.ok.hd hc) pl.isList (ns := ns) (by simpa using r.ints) (by unfold scanBound; omega) fun h' tk hS hk => ?_
  rw [hl] at hS
  refine PyProof.Rows.args_nil ?_
  obtain ⟨o, es, ep, t, ho, hex, hd, _, _, _, hf, hn⟩ := hS
  have hle := firstMet_length_le (fun i => ns.getD i 0) ns.length
  have I2 : Inv X pins σ H1 { s1 with heap := h', toks := tk } := I1.kept fun b o e => hk b o (Heap.lt_size e) e
  exact call_len_set ho hex hd hf (by rw [hn]; omega) ⟨.int (firstMet (fun i => ns.getD i 0) ns.length).length, H1, I2.tok _, ⟨_, by rw [hn]⟩, q1 _ (met_nd _ _) (met_mem ns)⟩
end
section
variable {prog : Program} {w : World} {A : Around} {E : Value → Shared → Prop} {s : Shared}
theorem bounds_all (n : Nat) : sliceBounds none none none n = (0, (n : Int), 1) := by
  simp only [sliceBounds, Option.getD_none]
  rfl
set_option maxRecDepth 100000 in
theorem setItem_sliceAll {l b sl : Addr} {items new : Array Value} {n n2 : Nat} {vl vu : Value} {Q : Unit → Shared → Prop}
    (e : s.heap.get? l = some { cls := .type "list", data := .seq items n }) (e2 : s.heap.get? b = some { cls := .type "list", data := .seq new n2 }) (hne : l ≠ b)
    (hs : s.heap.IsSliceOf sl vl vu .none) (pl : IsPart vl none) (pu : IsPart vu none)
    (hsz : items.size + new.size ≤ sizeLine) (h : Q () { s with heap := s.heap.update l (Obj.mapSeq fun xs => xs.extract 0 0 ++ new ++ xs.extract items.size xs.size) }) :
    wpAny (model prog w) A (setItem (.ref l) (.ref sl) (.ref b)) Q E s := by
  have hl : s.heap.IsList l items := PySem.IsL.isList e
  have hb : s.heap.IsList b new := PySem.IsL.isList e2
  obtain ⟨os, hos, hcs, hds⟩ := id hs
  have hTs : s.TypeIs (.ref sl) "slice" := ⟨os, hos, hcs⟩
  have hstep : ¬ ((rawPart none == rawInt 0) = true) := Bool.false_ne_true
  have hsame : Builtin.List.listSameRef (.ref l) (.ref b) = false := by
    unfold Builtin.List.listSameRef
    exact beq_eq_false_iff_ne.mpr hne
  have hmax : (max (0 : Int) ((items.size : Nat) : Int)).toNat = items.size := by omega
  have hz' : ((fun xs : Array Value => xs.extract 0 0 ++ new ++ xs.extract items.size xs.size) items).size ≤ sizeLine + 1 := by
    simp only [Array.size_append, Array.size_extract]
    omega
  unfold setItem
  try with_reducible refine wpAny_holding ?_
  first | refine wpAny_bind (wpAny_pure ?_) | skip
  refine wpAny_bind (wpAny_sequenceKey hl.typeIs (by decide) ?_)
  refine wpAny_bind (wpAny_callSpecial?_slot (name := Str.ofString "__setitem__") hl.typeIs slot_list_setitem
    (wpAny_call_entry slot_list_setitem hl.typeIs entry_list_setitem ?_ (args_list_setitem _ _ _)))
  show wpAny _ _ (Builtin.List.listSubscript? (.ref sl) >>= _) _ _ s
  refine wpAny_bind ?_
  unfold Builtin.List.listSubscript?
  refine wpAny_bind (wpAny_specialOf hTs slice_no_index ?_)
  simp only [Option.isNone_none, if_true]
  refine wpAny_pure ?_
  show wpAny _ _ (typeOf (.ref sl) >>= _) _ _ s
  refine wpAny_bind (wpAny_typeOf hTs ?_)
  first
    | rw [if_neg (by decide)]
    | refine PySem.W.KFB.if_not (by decide) ?_
  rw [listSliceParts_eq]
  refine wpAny_bind (wpAny_bind (wpAny_field hos hds (x := .none) rfl (wpAny_bind (wpAny_listPart .none ?_))))
  rw [if_neg hstep]
  refine wpAny_bind (wpAny_field hos hds (x := vl) rfl (wpAny_bind (wpAny_listPart pl ?_)))
  refine wpAny_bind (wpAny_field hos hds (x := vu) rfl (wpAny_bind (wpAny_listPart pu (wpAny_pure ?_))))
  first
    | simp only [hsame, Bool.false_eq_true, if_false]
    | refine PySem.W.KFB.if_not hsame ?_
    | (dsimp only
       rw [if_neg (by rw [hsame]; exact Bool.false_ne_true)])
  refine wpAny_bind (m := Builtin.List.listAllItems (.ref b) "must assign iterable to extended slice") ?_
  unfold Builtin.List.listAllItems
  refine wpAny_bind (wpAny_typeOf hb.typeIs ?_)
  first
    | refine PySem.W.KFB.if_so (by decide) ?_
    | rw [if_pos (by decide)]
    | simp only [beq_self_eq_true, Bool.true_or, if_true]
  unfold Builtin.List.listItems
  refine wpAny_bind (wpAny_seqItems e2 rfl (wpAny_pure ?_))
  refine wpAny_bind (wpAny_bind (wpAny_seqItems e rfl (wpAny_pure ?_)))
  refine wpAny_bind (wpAny_of_eq ((sliceIndices_raw none none none items.size (by simp)).trans (congrArg (pure : Int × Int × Int → Sem (Int × Int × Int)) (bounds_all items.size))) ?_)
  show wpAny _ _ (if ((1 : Int) == 1) = true then _ else _) _ _ s
  rw [if_pos (by decide)]
  refine wpAny_bind (wpAny_rule ?_)
  first
    | simp only [notLongL hsz, Bool.false_eq_true, if_false]
    | refine PySem.W.KFB.if_not (notLongL hsz) ?_
  first | refine wpAny_bind (wpAny_pure ?_) | skip
  show wpAny _ _ (updateSeq l (fun xs => xs.extract 0 ((0 : Int)).toNat ++ new ++ xs.extract (max (0 : Int) ((items.size : Nat) : Int)).toNat xs.size) >>= _) _ _ s
  rw [hmax]
  refine wpAny_bind (wpAny_updateSeq (hz := Nat.le_trans (Nat.le_add_right _ _) hsz) (_hz' := hz') e rfl ?_)
  refine wpAny_bind (wpAny_letGo ?_)
  first
    | exact wpAny_bind (wpAny_pure (wpAny_pure ⟨.none, rfl, wpAny_pure h⟩))
    | exact wpAny_pure ⟨.none, rfl, wpAny_pure h⟩
end
section
variable {X : Cx}
theorem set_sliceAll {pins : List (Addr × Obj)} {s : Shared} {σ : L2.St} {H : Hp} {l b sl : Addr} {xs ys : List V} {vl vu : Value} {Q : Unit → Shared → Prop} (I : Inv X pins σ H s)
    (hH : H l = some (.lst xs)) (hB : H b = some (.lst ys)) (hne : l ≠ b) (hs : s.heap.IsSliceOf sl vl vu .none) (pl : IsPart vl none) (pu : IsPart vu none)
    (hz : xs.length + ys.length ≤ sizeLine) (h : ∀ s', Inv X pins σ (upd H l (.lst ys)) s' → Q () s') :
    wpAny (model X.prog X.w) X.A (setItem (.ref l) (.ref sl) (.ref b)) Q X.xe s := by
  obtain ⟨z, its, n, r, hl, e⟩ := I.lstM hH
  obtain ⟨z2, its2, n2, r2, hl2, e2⟩ := I.lstM hB
  refine setItem_sliceAll e e2 hne hs pl pu (by rw [List.size_toArray, List.size_toArray]; omega) (h _ ?_)
  refine I.lset (its' := its2) (t' := s.toks) hH e ?_ r2 (by omega)
  apply Array.toList_inj.mp
  simp
noncomputable def gSlA (K : Frag) (to : TE) : TG := fun v σ H Q => to σ H fun o H1 => ∃ a b xs ys, o = .ref a ∧ v = .ref b ∧ H1 a = some (.lst xs) ∧ H1 b = some (.lst ys) ∧ a ≠ b ∧ xs.length + ys.length ≤ sizeLine ∧ Q σ (upd H1 a (.lst ys))
theorem pg_slA {o : Expr} {to : TE} {p pos : Pos} (ho : PE X o to) : PG X (.Subscript o (.Slice none none none p) pos) (gSlA X.K to) := by
  refine ⟨fun pins s σ H v u Q I r h => ?_⟩
  have ha : assign (.Subscript o (.Slice none none none p) pos) X.env u = (do
      let ov ← holding [u] (eval o X.env)
      let iv ← holding [u, ov] (eval (.Slice none none none p) X.env)
      standAt pos
      holding [u, ov, iv] (setItem ov iv u)
      release [iv, u, ov] []) := by rfl
  rw [ha]
  refine wpAny_bind (wpAny_holding (thn (ho.run pins s σ H _ I h) fun ov s1 ⟨x, H1, I1, r1, q1⟩ => ?_))
  obtain ⟨a, b, xs, ys, rfl, rfl, h1, h2, hne, hz, q⟩ := q1
  cases r1
  cases r
  refine wpAny_bind (wpAny_holding ?_)
  refine wpAny_Slice ?_
  rw [evalPart_none]
  refine wpAny_pure ?_
  refine wpAny_pure ?_
  refine wpAny_pure ?_
  have I4 : Inv X pins σ H1 { s1 with heap := s1.heap.push { cls := .type "slice", data := .fields #[.none, .none, .none] } } := I1.kept (t' := s1.toks) fun b ob q => Heap.get?_push_of_some _ q
  refine wpAny_bind (wpAny_standAt (wpAny_bind (wpAny_holding ?_)))
  refine set_sliceAll (sl := s1.heap.objs.size) I4 h1 h2 hne (Heap.IsSliceOf.new ..) .none .none hz fun s' I5 => ?_
  exact wpAny_release ⟨σ, _, I5, q⟩
end
section
variable {prog : Program} {w : World} {A : Around} {E : Value → Shared → Prop} {s : Shared}
theorem adjust_rev (n : Nat) : Builtin.Slice.sliceAdjust none none (-1) (n : Int) = ((n : Int) - 1, -1) := by
  unfold Builtin.Slice.sliceAdjust
  simp
theorem places_rev (n : Nat) : Builtin.Slice.slicePlaces ((n : Int) - 1) (-1) (-1) = n := by
  unfold Builtin.Slice.slicePlaces
  rw [if_neg (by decide)]
  by_cases h : (n : Int) - 1 > -1
  · rw [if_pos h]
    have : ((n : Int) - 1 - -1 - 1) / (- -1) + 1 = n := by
      rw [show (- -1 : Int) = 1 by decide, Int.ediv_one]; omega
    rw [this]; rfl
  · rw [if_neg h]
    omega
theorem sliceApplied_rev {sl : Addr} {n : Nat} {u : Tok} {Q : Int × Int × Nat → Shared → Prop} (hs : s.heap.IsSliceOf sl .none .none (.int (-1) u)) (h : Q ((n : Int) - 1, -1, n) s) :
    wpAny (model prog w) A (Builtin.Slice.sliceApplied (.ref sl) (pure (n : Int))) Q E s := by
  obtain ⟨os, hos, hcs, hds⟩ := id hs
  unfold Builtin.Slice.sliceApplied Builtin.Slice.sliceFields
  refine wpAny_bind (wpAny_bind (wpAny_field hos hds (x := .none) rfl (wpAny_bind (wpAny_field hos hds (x := .none) rfl (wpAny_bind (wpAny_field hos hds (x := .int (-1) u) rfl (wpAny_pure ?_)))))))
  refine wpAny_bind (slicePart_int ?_)
  show wpAny _ _ (if ((-1 : Int) == 0) = true then _ else _) _ _ s
  rw [if_neg (by decide)]
  refine wpAny_bind (slicePart_none (wpAny_bind (slicePart_none (wpAny_bind (wpAny_pure ?_)))))
  show wpAny _ _ (match Builtin.Slice.sliceAdjust none none (-1) (n : Int) with | (lo, hi) => pure (lo, (-1 : Int), Builtin.Slice.slicePlaces lo hi (-1))) _ _ s
  rw [adjust_rev n]
  show wpAny _ _ (pure ((n : Int) - 1, (-1 : Int), Builtin.Slice.slicePlaces ((n : Int) - 1) (-1) (-1))) _ _ s
  rw [places_rev n]
  exact wpAny_pure h
theorem fm_cg {α β : Type} {f g : α → Option β} : ∀ {l : List α}, (∀ x ∈ l, f x = g x) → l.filterMap f = l.filterMap g
  | [], _ => rfl
  | x :: l, h => by
    rw [List.filterMap_cons, List.filterMap_cons, h x List.mem_cons_self, fm_cg fun y hy => h y (List.mem_cons_of_mem _ hy)]
theorem pick_rev (xs : Array Value) : ((List.range xs.size).filterMap fun (k : Nat) => xs[((xs.size : Int) - 1 + (k : Int) * (-1)).toNat]?).toArray = xs.toList.reverse.toArray := by
  congr 1
  rw [show xs.size = xs.toList.length from rfl]
  have e0 : ∀ i : Nat, xs[i]? = xs.toList[i]? := fun i => by simp
  simp only [e0]
  generalize xs.toList = l
  have e : ∀ k ∈ List.range l.length, (fun k : Nat => l[((l.length : Int) - 1 + (k : Int) * (-1)).toNat]?) k = (fun k : Nat => l.reverse[k]?) k := fun k hk => by
    rw [List.mem_range] at hk
    show l[((l.length : Int) - 1 + (k : Int) * (-1)).toNat]? = l.reverse[k]?
    rw [List.getElem?_reverse hk, show ((l.length : Int) - 1 + (k : Int) * (-1)).toNat = l.length - 1 - k by omega]
  rw [fm_cg e]
  have key : ∀ m : List Value, (List.range m.length).filterMap (fun k => m[k]?) = m := by
    intro m
    induction m with
    | nil => rfl
    | cons x m ih =>
      rw [List.length_cons, List.range_succ_eq_map, List.filterMap_cons]
      show x :: List.filterMap (fun k => (x :: m)[k]?) (List.map Nat.succ (List.range m.length)) = x :: m
      rw [List.filterMap_map]
      congr 1
  have := key l.reverse
  rw [List.length_reverse] at this
  exact this
theorem getItem_tuple_rev {t sl : Addr} {items : Array Value} {u : Tok} {Q : Value → Shared → Prop} (ht : IsTup s.heap t items) (hs : s.heap.IsSliceOf sl .none .none (.int (-1) u))
    (h : Q (.ref s.heap.objs.size) { s with heap := s.heap.push { cls := .type "tuple", data := .seq items.toList.reverse.toArray } })
    (hsz : items.size ≤ sizeLine := by size_fits) : wpAny (model prog w) A (getItem (.ref t) (.ref sl)) Q E s := by
  have hdrop : sizeOk (.seq items.toList.reverse.toArray) := by
    show items.toList.reverse.toArray.size ≤ sizeLine
    rw [List.size_toArray, List.length_reverse, Array.length_toList]
    omega
  obtain ⟨os, hos, hcs, hds⟩ := id hs
  have hTs : s.TypeIs (.ref sl) "slice" := ⟨os, hos, hcs⟩
  unfold getItem
  try with_reducible refine wpAny_holding ?_
  first | refine wpAny_bind (wpAny_pure ?_) | skip
  refine wpAny_bind (wpAny_sequenceKey ht.typeIs (by decide) ?_)
  refine wpAny_bind (wpAny_callSpecial?_slot (name := Str.ofString "__getitem__") ht.typeIs slot_tuple_getitem
    (wpAny_call_entry slot_tuple_getitem ht.typeIs entry_tuple_getitem ?_ (args_tuple_getitem _ _)))
  show wpAny _ _ (Builtin.Tuple.tupleItemsOf (.ref t) >>= _) _ _ s
  refine wpAny_bind (tupleItemsOf_ ht ?_)
  refine wpAny_bind (wpAny_typeOf hTs ?_)
  rw [if_pos (by decide)]
  refine wpAny_bind (sliceApplied_rev hs ?_)
  have hno : ¬ ((((items.size : Int) - 1) == 0 && (-1 : Int) == 1 && items.size == items.size) = true) := by
    have : ((-1 : Int) == 1) = false := by decide
    rw [this]; simp
  show wpAny _ _ (if (((items.size : Int) - 1) == 0 && (-1 : Int) == 1 && items.size == items.size) = true then _ else _) _ _ s
  rw [if_neg hno, pick_rev items]
  first
    | exact wpAny_bind (m := Builtin.Tuple.tupleExact _) (wpAny_newObj_type (wpAny_pure ⟨_, rfl, wpAny_pure h⟩) hdrop)
    | exact wpAny_bind (m := Builtin.Tuple.tupleExact _) (wpAny_newObj_type (wpAny_bind (wpAny_pure (wpAny_pure ⟨_, rfl, wpAny_pure h⟩))) hdrop)
    | exact wpAny_bind (wpAny_bind (m := Builtin.Tuple.tupleExact _) (wpAny_newObj_type (wpAny_pure (wpAny_pure ⟨_, rfl, wpAny_pure h⟩)) hdrop))
    | exact wpAny_bind (wpAny_bind (m := Builtin.Tuple.tupleExact _) (wpAny_newObj_type (wpAny_pure ⟨_, rfl, wpAny_pure h⟩) hdrop))
end
section
variable {X : Cx}
noncomputable def tRev2 (K : Frag) (te : TE) : TE := fun σ H Q => te σ H fun x H1 => (∃ a xs, x = V.ref a ∧ SqL K H1 a xs ∧ ∀ p, H1 p = none → Q (.ref p) (upd H1 p (.lst xs.reverse))) ∨ (∃ a xs, x = V.ref a ∧ SqT K H1 a xs ∧ ∀ p, H1 p = none → Q (.ref p) (upd H1 p (.tup xs.reverse)))
theorem pe_rev2 {e : Expr} {te : TE} {k : Nat} {p1 p2 p3 pos : Pos} (he : PE X e te) : PE X (.Subscript e (.Slice none none (some (.UnaryOp .USub (.Constant (.int 1) k p1) p2)) p3) pos) (tRev2 X.K te) := by
  refine ⟨fun pins s σ H Q I h => ?_⟩
  refine Subscript_ (thn (he.run pins s σ H _ I h) fun v s1 ⟨x, H1, I1, r1, q1⟩ => ?_)
  have hst : PO X (some (.UnaryOp .USub (.Constant (.int 1) k p1) p2)) (tPart (tUn (rU fun i => .int (-i)) (tC (.int 1)))) := po_some (pe_un un_neg pe_int)
  refine wpAny_Slice (thn (po_none.run pins s1 σ H1 (fun o H2 => o = none ∧ H2 = H1) I1 ⟨rfl, rfl⟩) fun vl s2 ⟨l, H2, I2, pl, el, e2⟩ => ?_)
  subst el e2
  refine thn (po_none.run pins s2 σ H2 (fun o H3 => o = none ∧ H3 = H2) I2 ⟨rfl, rfl⟩) fun vu s3 ⟨u, H3, I3, pu, eu, e3⟩ => ?_
  subst eu e3
  refine thn (hst.run pins s3 σ H3 (fun o H4 => o = some (-1) ∧ H4 = H3) I3 ⟨1, rfl, -1, rfl, rfl, rfl⟩) fun vs s4 ⟨o, H4, I4, ps, eo, e4⟩ => ?_
  subst eo e4
  have I5 : Inv X pins σ H4 { s4 with heap := s4.heap.push { cls := .type "slice", data := .fields #[vl, vu, vs] } } := I4.kept (t' := s4.toks) fun b ob q => Heap.get?_push_of_some _ q
  rcases q1 with ⟨a, xs, ex, hx, q⟩ | ⟨a, xs, ex, hx, q⟩
  · subst ex
    cases r1
    obtain ⟨its, r, ht, hz⟩ := I5.list hx
    have hlen := r.length
    show wpAny (model X.prog X.w) X.A (subscriptTail e (.Slice none none (some (.UnaryOp .USub (.Constant (.int 1) k p1) p2)) p3) (.ref a) (.ref s4.heap.objs.size)) (EP X pins σ Q) X.xe { s4 with heap := s4.heap.push { cls := .type "slice", data := .fields #[vl, vu, vs] } }
    refine tail_any (ops := [.ref a, .ref s4.heap.objs.size]) ht.isList.typeIs (PySem.slot_list_getitem.lookup) ?_ (by with_unfolding_all rfl)
    refine wpAny_getItem_list_slice ht.isList (Heap.IsSliceOf.new _ vl vu vs) pl pu ps (by decide) ?_ (by rw [List.size_toArray]; omega)
    rw [PySem.W.krv_pick]
    refine ⟨.ref _, _, I5.laid (t' := s4.toks) (o := .lst xs.reverse) (fun b ob q => Heap.get?_push_of_some _ q) (Nat.le_refl _) ?_, rfl, q _ (I5.hok.fresh (Nat.le_refl _))⟩
    exact ⟨by rw [List.length_reverse]; exact hz, _, 0, r.reverse, Heap.get?_push_size _ rfl⟩
  · subst ex
    cases r1
    obtain ⟨its, r, ht, hz⟩ := I5.tuple hx
    have hlen := r.length
    cases pl
    cases pu
    cases ps
    rename_i u _
    show wpAny (model X.prog X.w) X.A (subscriptTail e (.Slice none none (some (.UnaryOp .USub (.Constant (.int 1) k p1) p2)) p3) (.ref a) (.ref s4.heap.objs.size)) (EP X pins σ Q) X.xe { s4 with heap := s4.heap.push { cls := .type "slice", data := .fields #[.none, .none, .int (-1) u] } }
    refine tail_any (ops := [.ref a, .ref s4.heap.objs.size]) ht.typeIs (slot_tuple_getitem.lookup) ?_ (by with_unfolding_all rfl)
    refine getItem_tuple_rev ht (Heap.IsSliceOf.new _ .none .none (.int (-1) u)) ?_ (by rw [List.size_toArray]; omega)
    refine ⟨.ref _, _, I5.laid (t' := s4.toks) (o := .tup xs.reverse) (fun b ob q => Heap.get?_push_of_some _ q) (Nat.le_refl _) ?_, rfl, q _ (I5.hok.fresh (Nat.le_refl _))⟩
    exact ⟨by rw [List.length_reverse]; exact hz, _, r.reverse, IsTup.new _ _⟩
end
theorem lexN_asym : ∀ {p q : List Int}, lexN p q = true → lexN q p = false
  | [], [], h => by cases h
  | [], _ :: _, _ => rfl
  | _ :: _, [], h => by cases h
  | x :: p, y :: q, h => by
    unfold lexN at h ⊢
    by_cases e : x = y
    · rw [if_pos e] at h
      rw [if_pos e.symm]
      exact lexN_asym h
    · rw [if_neg e] at h
      rw [if_neg fun z => e z.symm]
      have := of_decide_eq_true h
      exact decide_eq_false (by omega)
theorem lexN_neg : ∀ {p q r : List Int}, lexN q p = false → lexN r q = false → lexN r p = false
  | _, _, [], h1, h2 => by
    rename_i p q
    cases q with
    | nil => exact h1
    | cons y q => cases h2
  | [], _, _ :: _, h1, h2 => rfl
  | x :: p, q, z :: r, h1, h2 => by
    cases q with
    | nil => cases h1
    | cons y q =>
      unfold lexN at h1 h2 ⊢
      by_cases e1 : y = x
      · rw [if_pos e1] at h1
        by_cases e2 : z = y
        · rw [if_pos e2] at h2
          rw [if_pos (e2.trans e1)]
          exact lexN_neg h1 h2
        · rw [if_neg e2] at h2
          rw [if_neg fun e => e2 (e.trans e1.symm)]
          have := of_decide_eq_false h2
          exact decide_eq_false (by omega)
      · rw [if_neg e1] at h1
        have h1 := of_decide_eq_false h1
        by_cases e2 : z = y
        · rw [if_neg (by omega)]
          exact decide_eq_false (by omega)
        · rw [if_neg e2] at h2
          have h2 := of_decide_eq_false h2
          rw [if_neg (by omega)]
          exact decide_eq_false (by omega)
theorem lexN_cons (x y : Int) (p q : List Int) : lexN (x :: p) (y :: q) = if x = y then lexN p q else decide (x < y) := rfl
theorem swo_lexN (k : Value → List Int) : SrtO.Swo fun v u => lexN (k v) (k u) := ⟨fun x y h => lexN_asym h, fun x y z h1 h2 => lexN_neg h1 h2⟩
noncomputable abbrev IntsP : List Int → List Value → Prop := Paired fun (i : Int) (u : Value) => ∃ t, u = Value.int i t
noncomputable def IsInts (h : Heap) (v : Value) (p : List Int) : Prop := ∃ a o its n, v = .ref a ∧ h.get? a = some o ∧ o.cls = .type "tuple" ∧ o.data = .seq its n ∧ IntsP p its.toList
theorem IsInts.keeps {h h' : Heap} {v : Value} {p : List Int} (x : IsInts h v p) (k : ∀ b o, h.get? b = some o → o.cls = .type "tuple" → h'.get? b = some o) : IsInts h' v p := by
  obtain ⟨a, o, its, n, e, ho, hc, hd, r⟩ := x
  exact ⟨a, o, its, n, e, k _ _ ho hc, hc, hd, r⟩
section
variable {prog : Program} {w : World} {A : Around} {s : Shared} {E : Value → Shared → Prop}
theorem kat_ints {s : Shared} (fin : Bool) : ∀ (p q : List Int) (us ws : List Value) (i : Nat) (r : Bool), IntsP p us → IntsP q ws → fin = decide (p.length < q.length) → r = lexN p q →
    PySem.W.KatLex prog w A true fin (fun c s' => s' = s ∧ c = r) (us.zip ws) i s
  | [], [], _, _, i, r, .nil, .nil, e, er => PySem.W.kat_nil ⟨rfl, by rw [e, er]; rfl⟩
  | [], y :: q, _, _, i, r, .nil, .cons _ _, e, er => PySem.W.kat_nil ⟨rfl, by rw [e, er]; exact decide_eq_true (by simp)⟩
  | x :: p, [], _, _, i, r, .cons _ _, .nil, e, er => PySem.W.kat_nil ⟨rfl, by rw [e, er]; exact decide_eq_false (by simp)⟩
  | x :: p, y :: q, u :: us, v :: ws, i, r, .cons h1 t1, .cons h2 t2, e, er => by
    obtain ⟨t, rfl⟩ := h1
    obtain ⟨t', rfl⟩ := h2
    show PySem.W.KatLex prog w A true fin _ ((.int x t, .int y t') :: us.zip ws) i s
    refine PySem.W.kat_cons (SeqAt.EqAt.int_int x t y t' prog w _ _ ?_)
    refine PySem.W.kat_go (fun e1 => ?_) (fun e1 => ?_)
    · have ex : x = y := by simpa using e1
      refine PySem.W.kat_yes (kat_ints fin p q us ws (i + 1) r t1 t2 (by rw [e]; simp) ?_)
      rw [er, lexN_cons, if_pos ex]
    · have ex : ¬ x = y := by simpa using e1
      have e3 : r = decide (x < y) := by rw [er, lexN_cons, if_neg ex]
      refine PySem.W.kat_no ?_
      cases i with
      | zero => exact PyProof.Rows.oneLt_int ⟨rfl, e3.symm⟩
      | succ i => exact PySem.W.kat_one _ _ (PyProof.Rows.lt_int ⟨rfl, e3.symm⟩)
theorem ints_cmp {vs : List Value} {k : Value → List Int} (hp : ∀ v ∈ vs, IsInts s.heap v (k v)) : SrtO.Cmp prog w A s (tuples' true) (fun p => p.1 ∈ vs) (SrtO.lt2 fun v u => lexN (k v) (k u)) := by
  intro p q hm hm'
  have h1 := hp _ hm
  have h2 := hp _ hm'
  show wpAny (model prog w) A (keyLt' (tuples' true) p.1 q.1) (fun r s' => s' = s ∧ r = lexN (k p.1) (k q.1)) (fun _ _ => False) s
  obtain ⟨a, o, its, n, e, ho, hc, hd, r1⟩ := h1
  obtain ⟨a', o', its', n', e', ho', hc', hd', r2⟩ := h2
  have l1 := Paired.length r1
  have l2 := Paired.length r2
  generalize k p.1 = x at r1 l1 ⊢
  generalize k q.1 = y at r2 l2 ⊢
  rw [e, e']
  refine PySem.W.kat_lt ho hd ho' hd' ?_
  exact kat_ints _ x y _ _ 0 _ r1 r2 (by rw [l1, l2, Array.length_toList, Array.length_toList]) rfl
theorem firsts_ints {h : Heap} : ∀ {vs : List Value} {k : Value → List Int}, (∀ v ∈ vs, IsInts h v (k v) ∧ k v ≠ []) → ∃ fs : List Value, PySem.W.KatTups h vs fs ∧ fs.length = vs.length ∧ ∀ f ∈ fs, ∃ x t, f = Value.int x t
  | [], _, _ => ⟨[], PySem.W.KatTups.nil, rfl, fun _ hm => by simp at hm⟩
  | v :: vs, k, hp => by
    obtain ⟨fs, h1, h2, h3⟩ := firsts_ints (vs := vs) (k := k) fun v' hm => hp v' (List.mem_cons_of_mem _ hm)
    obtain ⟨⟨a, o, its, n, e, ho, hc, hd, r⟩, hne⟩ := hp v (List.mem_cons_self ..)
    subst e
    cases hk : k (.ref a) with
    | nil => exact (hne hk).elim
    | cons x p =>
      rw [hk] at r
      obtain ⟨l, rfl⟩ : ∃ l : List Value, its = l.toArray := ⟨its.toList, by simp⟩
      rw [List.toList_toArray] at r
      cases r with
      | cons h t =>
        obtain ⟨tk, rfl⟩ := h
        refine ⟨.int x tk :: fs, PySem.W.KatTups.cons ho hc hd (by simp) h1, by rw [List.length_cons, List.length_cons, h2], fun f hm => ?_⟩
        rcases List.mem_cons.mp hm with rfl | hm
        · exact ⟨x, tk, rfl⟩
        · exact h3 f hm
theorem ints_sortable {a : Addr} {vs : List Value} {k : Value → List Int} (h0 : 0 < vs.length) (hp : ∀ v ∈ vs, IsInts s.heap v (k v) ∧ k v ≠ []) (ha : ∀ o, s.heap.get? a = some o → o.cls ≠ .type "tuple") : SrtO.SortableO prog w A s a vs fun v u => lexN (k v) (k u) := by
  intro h' keep
  have hp' : ∀ v ∈ vs, IsInts h' v (k v) := fun v hm => (hp v hm).1.keeps fun b o e c => keep b o (fun z => by subst z; exact ha o e c) e
  obtain ⟨fs, h1, h2, h3⟩ := firsts_ints (k := k) fun v hm => ⟨hp' v hm, (hp v hm).2⟩
  refine ⟨tuples' true, fun Q E hq => ?_, ints_cmp hp'⟩
  refine PySem.W.kat_kind (T := .type "int") h1 (by omega) (fun f hm => ?_) (by rfl) ?_
  · obtain ⟨x, t, rfl⟩ := h3 f hm
    exact PySem.W.Looks.now
  · have e : (Value.type "int" != Value.type "tuple") = true := by first | decide +kernel | rfl | decide
    rw [e]
    exact hq
theorem sorted_ints {l : Addr} {vs : List Value} {k : Value → List Int} {Q : Value → Shared → Prop} (hl : s.heap.IsList l vs.toArray) (hz : vs.length ≤ sizeLine) (hp : ∀ v ∈ vs, IsInts s.heap v (k v) ∧ k v ≠ [])
    (h : ∀ (h' : Heap) (d : Addr) (out : List Value), SrtO.Srtd (fun v u => lexN (k v) (k u)) out → SrtO.Stb (fun v u => lexN (k v) (k u)) out vs → (∀ b o, s.heap.get? b = some o → h'.get? b = some o) → s.heap.objs.size ≤ d → (∃ n, h'.get? d = some (seqObj "list" out.toArray n)) → Q (.ref d) { s with heap := h' }) :
    wpAny (model prog w) A (call (.builtin "sorted") [.ref l]) Q E s := by
  refine SrtO.sorted_ord (swo_lexN k) hl hz (fun h2 h₁ a ha kk => ?_) fun out hs hb => ?_
  · refine ints_sortable (s := { s with heap := h₁ }) (by omega) (fun v hm => ⟨(hp v hm).1.keeps fun b o e _ => (kk b o e).2, (hp v hm).2⟩) fun o e => ?_
    have e' : some o = some (seqObj "list" vs.toArray 0) := e.symm.trans ha
    cases e'
    intro c
    exact absurd (Value.type.inj c) (by decide)
  · exact h _ _ out hs hb (fun b o e => PyProof.Rows.sortedAll_old e) (Nat.le_succ _) (PyProof.Rows.sortedAll_at s.heap vs out.toArray)
end
section
variable {X : Cx} {cx : Cls2}
noncomputable def intsAt (h : Heap) : Value → List Int
  | .ref b => match h.get? b with
    | some o => match o.data with
      | .seq a _ => a.toList.map fun u => match u with | .int x _ => x | _ => 0
      | _ => []
    | none => []
  | _ => []
theorem ints_vals : ∀ {p : List Int} {us : List Value}, Vals (p.map V.int) us → IntsP p us ∧ us.map (fun u => match u with | .int x _ => x | _ => 0) = p
  | [], _, .nil => ⟨.nil, rfl⟩
  | x :: p, u :: us, .cons h t => by
    obtain ⟨i1, i2⟩ := ints_vals (p := p) t
    obtain ⟨tk, rfl⟩ := h
    exact ⟨.cons ⟨tk, rfl⟩ i1, by rw [List.map_cons, i2]⟩
theorem ints_one {pins : List (Addr × Obj)} {σ : L2.St} {H : Hp} {s : Shared} (I : Inv X pins σ H s) {p : List Int} {b : Addr} (r : RepV X.K H (tupI p) (.ref b)) : intsAt s.heap (.ref b) = p ∧ IsInts s.heap (.ref b) p := by
  obtain ⟨t, vs, e, hq, rr⟩ := r
  cases e
  have e := rr.ints
  subst e
  obtain ⟨its, rv, ⟨o, ho, hc, n, hd⟩, _⟩ := I.tuple hq
  obtain ⟨h1, h2⟩ := ints_vals rv
  refine ⟨?_, ⟨b, o, its.toArray, n, rfl, ho, hc, hd, h1⟩⟩
  show (match s.heap.get? b with | some o => (match o.data with | .seq a _ => a.toList.map (fun u => match u with | .int x _ => x | _ => 0) | _ => []) | none => []) = p
  rw [ho]
  show (match o.data with | .seq a _ => a.toList.map (fun u => match u with | .int x _ => x | _ => 0) | _ => []) = p
  rw [hd]
  exact h2
theorem ints_each {pins : List (Addr × Obj)} {σ : L2.St} {H : Hp} {s : Shared} (I : Inv X pins σ H s) : ∀ {ps : List (List Int)} {us : List Value}, Paired (fun (p : List Int) (u : Value) => ∃ b, u = .ref b ∧ RepV X.K H (tupI p) (.ref b)) ps us →
    ps = us.map (intsAt s.heap) ∧ ∀ u ∈ us, ∃ b, u = .ref b ∧ IsInts s.heap u (intsAt s.heap u) ∧ RepV X.K H (tupI (intsAt s.heap u)) (.ref b)
  | [], _, .nil => ⟨rfl, fun u h => by cases h⟩
  | p :: ps, u :: us, .cons ⟨b, e, r⟩ t => by
    subst e
    obtain ⟨i1, i2⟩ := ints_each I t
    obtain ⟨h1, h2⟩ := ints_one I r
    refine ⟨by rw [List.map_cons, h1, ← i1], fun u hu => ?_⟩
    rcases List.mem_cons.mp hu with rfl | hu
    · rw [h1]; exact ⟨b, rfl, h2, r⟩
    · exact i2 u hu
theorem ints_rep {K : Frag} {H : Hp} {f : Value → List Int} : ∀ (l : List Value), (∀ u ∈ l, ∃ b, u = .ref b ∧ RepV K H (tupI (f u)) (.ref b)) → RepL K H ((l.map f).map tupI) (l.map backV)
  | [], _ => .nil
  | u :: l, h => by
    obtain ⟨b, e, r⟩ := h u List.mem_cons_self
    subst e
    exact .cons r (ints_rep l fun x hx => h x (List.mem_cons_of_mem _ hx))
theorem rep_refs {K : Frag} {H : Hp} : ∀ {ps : List (List Int)} {vs : List V} {us : List Value}, RepL K H (ps.map tupI) vs → Vals vs us → Paired (fun (p : List Int) (u : Value) => ∃ b, u = .ref b ∧ RepV K H (tupI p) (.ref b)) ps us
  | [], _, us, e, r => by cases e; cases r; exact .nil
  | p :: ps, _, us, ⟨v, vr, e, r, rr⟩, rv => by
    subst e
    cases rv with
    | cons h t =>
      obtain ⟨b, vs, rfl, h1, h2⟩ := r
      cases h
      exact .cons ⟨b, rfl, b, vs, rfl, h1, h2⟩ (rep_refs rr t)
theorem call1_sortedN : CallR X (.builtin "sorted") (c1of X.K cx .sortedN) := by
  intro pins s σ H xs us Q I r w
  obtain ⟨v, rfl, S, a, hr, ra, w⟩ := w
  obtain ⟨c, w, hc⟩ := view_of hr ra w
  obtain ⟨ps, rfl, hne, k⟩ := w
  obtain ⟨p, vs, rfl, hp, r1⟩ := hc
  obtain ⟨its, rv, hl, hz⟩ := I.list (SqL.of hp)
  obtain ⟨u, rfl, ru⟩ := vals1 r
  obtain rfl : u = Value.ref p := ru
  obtain ⟨ep, each⟩ := ints_each I (rep_refs r1 rv)
  refine sorted_ints (k := intsAt s.heap) hl.isList (by rw [← rv.length]; exact hz) (fun v hv => ?_) fun h' d out h1 h2 kp hd hn => ?_
  · obtain ⟨b, _, h, _⟩ := each v hv
    exact ⟨h, hne _ (by rw [ep]; exact List.mem_map_of_mem hv)⟩
  have h3 : ∀ u ∈ out, ∃ a, u = Value.ref a := fun u hu => let ⟨b, e, _⟩ := each u (h2.perm.mem_iff.mp hu); ⟨b, e⟩
  obtain ⟨n, hn⟩ := hn
  have hln : (out.map backV).length ≤ sizeLine := by
    rw [List.length_map, h2.perm.length_eq, ← rv.length]
    exact hz
  refine ⟨.ref d, upd H d (.lst (out.map backV)), I.laid (t' := s.toks) kp hd ⟨hln, out, n, vals_back h3, hn⟩, rfl, ?_⟩
  refine fin_vl (k (out.map (intsAt s.heap)) ?_ ?_) hr (ints_rep out fun u hu => let ⟨b, e, _, h⟩ := each u (h2.perm.mem_iff.mp hu); ⟨b, e, h⟩) d (I.hok.fresh hd)
  · rw [ep]; exact h2.perm.map _
  · show List.Pairwise _ _
    rw [List.pairwise_map]
    exact h1
theorem dn_keys {K : Frag} {H : Hp} : ∀ {kvs : List (D × D)} {xs : List NE}, DnR K H kvs xs → RepL K H (kvs.map Prod.fst) (xs.map fun x => V.ref x.2.1)
  | _, _, .nil => .nil
  | _, _, .cons h t => .cons h.2.2.1 (dn_keys t)
theorem items_keys {acc : Array Value} {es : Array DictEntry} {w : World} {xs : List NE} (he : es.toList = xs.map (entN w)) (it : ItemsOf (fun i v => ∃ en : DictEntry, es[i]? = some en ∧ v = en.key) acc es.size) : acc.toList = xs.map fun x => Value.ref x.2.1 := by
  have les : es.size = xs.length := by rw [← Array.length_toList, he, List.length_map]
  have hl : acc.toList.length = xs.length := by rw [Array.length_toList, it.1]; exact les
  apply List.ext_getElem?
  intro j
  rw [List.getElem?_map]
  cases hj : acc.toList[j]? with
  | none =>
    have h1 := List.getElem?_eq_none_iff.mp hj
    rw [List.getElem?_eq_none (by omega)]
    rfl
  | some v =>
    obtain ⟨en, hen, hv⟩ := it.2 j v (by rw [← Array.getElem?_toList]; exact hj)
    rw [← Array.getElem?_toList, he, List.getElem?_map] at hen
    cases hb : xs[j]? with
    | none => rw [hb] at hen; cases hen
    | some x =>
      rw [hb] at hen
      cases hen
      rw [hv]; rfl
theorem key_rep {K : Frag} {H : Hp} {d : D} (h : keyD d = true) : RepV K H d (kV (keyK d)) := by
  cases d <;> first | rfl | cases h
theorem dk_keys {K : Frag} {H : Hp} : ∀ {kvs : List (D × D)} {ks : List (Key × V)}, DicR K H kvs ks → RepL K H (kvs.map Prod.fst) (ks.map fun kv => kV kv.1)
  | _, _, .nil => .nil
  | _, _, .cons h t => .cons (by
      obtain ⟨h1, h2⟩ := KeyR.of h.1
      show RepV K H _ (kV _)
      rw [h2]
      exact key_rep h1) (dk_keys t)
theorem call1_listK (hcalm : X.calm = true) : CallR X (.type "list") (c1of X.K cx .listK) := by
  intro pins s σ H xs us Q I r w
  obtain ⟨v, rfl, S, a, hr, ra, w⟩ := w
  obtain ⟨c, w, hc⟩ := view_of hr ra w
  obtain ⟨kvs, rfl, k⟩ := w
  obtain ⟨p, ks, rfl, hp, rd⟩ := hc
  exact call_list_dK hcalm pins s σ H _ us Q I r ⟨p, ks, rfl, hp, fin_vl k hr (dk_keys rd)⟩
theorem call1_listDn (hcalm : X.calm = true) (hw : cx.w = X.w) : CallR X (.type "list") (c1of X.K cx .listDn) := by
  intro pins s σ H xs us Q I r w
  obtain ⟨v, rfl, S, a, hr, ra, w⟩ := w
  obtain ⟨c, w, hc⟩ := view_of hr ra w
  obtain ⟨kvs, rfl, k⟩ := w
  obtain ⟨d, xs, rfl, hd, rd⟩ := hc
  rw [hw] at hd
  obtain ⟨u, rfl, ru⟩ := vals1 r
  obtain rfl : u = Value.ref d := ru
  obtain ⟨o, es, ep, ho, hx, hdt, he⟩ := dn_obj I (.inl hd)
  have les : es.size = xs.length := by rw [← Array.length_toList, he, List.length_map]
  refine PySem.W.kdl_call (L2.kdl_raw rd.m hx hdt) (I.ok.hd hcalm) ho (by rw [les]; exact rd.z) fun h' tk acc' c' kp e it => ?_
  have ea := items_keys he it
  have rv : Vals (xs.map fun x => V.ref x.2.1) acc'.toList := by rw [ea]; exact vals_maps (fun x : NE => V.ref x.2.1) (fun x => Value.ref x.2.1) xs fun _ _ => rfl
  refine ⟨.ref s.heap.objs.size, _, I.laid (t' := tk) (o := .lst (xs.map fun x => V.ref x.2.1)) kp (Nat.le_refl _) ⟨by rw [List.length_map]; exact rd.z, acc'.toList, c', rv, by rw [Array.toArray_toList]; exact e⟩, rfl, ?_⟩
  exact fin_vl k hr (dn_keys rd.r) _ (I.hok.fresh (Nat.le_refl _))
theorem call1_lenDn (hw : cx.w = X.w) : CallR X (.builtin "len") (c1of X.K cx .lenDn) := by
  intro pins s σ H xs us Q I r w
  obtain ⟨v, rfl, S, a, hr, ra, w⟩ := w
  obtain ⟨c, w, hc⟩ := view_of hr ra w
  obtain ⟨kvs, rfl, k⟩ := w
  obtain ⟨d, xs, rfl, hd, rd⟩ := hc
  rw [hw] at hd
  obtain ⟨u, rfl, ru⟩ := vals1 r
  obtain rfl : u = Value.ref d := ru
  have hl := rd.r.length
  have hz := rd.z
  refine call_len_dictH rd.m (dn_of I (.inl hd) rd) (by rw [sizeLine_eq] at hz; omega) ?_
  rw [← hl]
  exact ⟨.int ((kvs.length : Nat) : Int), H, I.tok _, ⟨_, rfl⟩, fin_int k hr⟩
theorem call1_sortedDn (hcalm : X.calm = true) (hw : cx.w = X.w) : CallR X (.builtin "sorted") (c1of X.K cx .sortedDn) := by
  intro pins s σ H xs us Q I r w
  obtain ⟨v, rfl, S, a, hr, ra, w⟩ := w
  obtain ⟨c, w, hc⟩ := view_of hr ra w
  obtain ⟨kvs, ps, rfl, hks, hne, k⟩ := w
  obtain ⟨d, xs, rfl, hd, rd⟩ := hc
  rw [hw] at hd
  obtain ⟨u, rfl, ru⟩ := vals1 r
  obtain rfl : u = Value.ref d := ru
  obtain ⟨o, es, ep, ho, hx, hdt, he⟩ := dn_obj I (.inl hd)
  have les : es.size = xs.length := by rw [← Array.length_toList, he, List.length_map]
  have rk := dn_keys rd.r
  rw [hks] at rk
  refine Calls.call_function_entry PyProof.Rows.kind_sorted PyProof.Rows.plain_sorted PyProof.Rows.entry_sorted (PyProof.Rows.args_sorted1 _) ?_
  unfold Builtin.«sorted»
  refine wpAny_bind (m := checkCount "sorted" 1 1 _) (wpAny_pure ?_)
  refine wpAny_bind (PySem.W.kdu_collect (A := X.A.in1) (L2.kdl_raw rd.m hx hdt) (I.ok.hd hcalm) ho (by rw [les]; exact rd.z) fun h' tk acc hk hacc => ?_)
  have ea := items_keys he hacc
  have I1 : Inv X pins σ H { s with heap := h', toks := tk } := I.kept hk
  have rv : Vals (xs.map fun x => V.ref x.2.1) acc.toList := by rw [ea]; exact vals_maps (fun x : NE => V.ref x.2.1) (fun x => Value.ref x.2.1) xs fun _ _ => rfl
  have hal : acc.toList.length ≤ sizeLine := by rw [ea, List.length_map]; exact rd.z
  obtain ⟨ep', each⟩ := ints_each I1 (rep_refs rk rv)
  refine wpAny_bind (wpAny_newList ?_ hal)
  have hoL : (h'.push (seqObj "list" acc.toList.toArray 0)).get? h'.objs.size = some (seqObj "list" acc.toList.toArray 0) := Heap.get?_push_size _ rfl
  show wpAny _ _ _ _ _ { s with heap := h'.push (seqObj "list" acc.toList.toArray 0), toks := tk }
  refine wpAny_bind (wpAny_holding (wpAny_call_entry PyProof.Rows.slot_list_sort ⟨_, hoL, rfl⟩ PyProof.Rows.entry_list_sort
    (SrtO.list_sort_ord (s := { s with heap := h'.push (seqObj "list" acc.toList.toArray 0), toks := tk }) (swo_lexN (intsAt h')) hoL hal (fun h2 => ints_sortable (by omega) (fun v hv => ?_) fun o e => ?_) fun out h1 h2 => ⟨_, rfl, ?_⟩) (PyProof.Rows.args_list_sort _)))
  · obtain ⟨b, _, h, _⟩ := each v hv
    exact ⟨h.keeps fun b o e _ => Heap.get?_push_of_some _ e, hne _ (by rw [ep']; exact List.mem_map_of_mem hv)⟩
  · have e' : some o = some (seqObj "list" acc.toList.toArray 0) := e.symm.trans hoL
    cases e'
    intro c
    exact absurd (Value.type.inj c) (by decide)
  obtain ⟨e', he'⟩ := PyProof.Rows.sortedHeap_at (vs := acc.toList) (out := out.toArray) hoL
  have h3 : ∀ u ∈ out, ∃ a, u = Value.ref a := fun u hu => let ⟨b, e, _⟩ := each u (h2.perm.mem_iff.mp hu); ⟨b, e⟩
  have hlen : (out.map backV).length ≤ sizeLine := by
    rw [List.length_map, h2.perm.length_eq]
    exact hal
  refine wpAny_pure ⟨_, rfl, .ref h'.objs.size, upd H h'.objs.size (.lst (out.map backV)), I1.laid (t' := tk) (fun b u e => ?_) (Nat.le_refl _)
    (show ObjOk X.prog X.w _ _ _ (.lst (out.map backV)) from ⟨hlen, out, e', vals_back h3, he'⟩), rfl, ?_⟩
  · have hb : b < h'.objs.size := Heap.lt_size e
    rw [PyProof.Rows.sortedHeap_old (Nat.ne_of_lt hb) (by rw [size_push']; exact Nat.lt_succ_of_lt hb)]
    exact Heap.get?_push_of_some _ e
  · refine fin_vl (k (out.map (intsAt h')) ?_ ?_) hr (ints_rep out fun u hu => let ⟨b, e, _, h⟩ := each u (h2.perm.mem_iff.mp hu); ⟨b, e, h⟩) _ (I1.hok.fresh (Nat.le_refl _))
    · rw [ep']; exact h2.perm.map _
    · show List.Pairwise _ _
      rw [List.pairwise_map]
      exact h1
end
noncomputable def RelX (K : Frag) (S : Hs) (H : Hp) (σ2 : Sl) (σ : L2.St) : Prop := σ2.length = σ.length ∧ ∀ (i : Nat) (x : Vx), σ2[i]? = some (some x) → ∃ v, σ[i]? = some (some v) ∧ RepX K H S x v
noncomputable abbrev WE := Sl → Hs → LK2 → Prop
noncomputable abbrev WI := Sl → Hs → (It2 → Hs → Prop) → Prop
noncomputable def kE (K : Frag) (cx : Cls2) (S : Hs) (H : Hp) (Q : VK) : LK2 := fun xs S' => ∃ x, xs = [x] ∧ KVof K cx S H Q x S'
noncomputable def liftE (K : Frag) (cx : Cls2) (w : WE) : TE := fun σ H Q => ∃ S σ2, Rel K cx S H ∧ RelX K S H σ2 σ ∧ w σ2 S (kE K cx S H Q)
noncomputable def kA (K : Frag) (cx : Cls2) (S : Hs) (H : Hp) (Q : List V → Hp → Prop) : LK2 := fun xs S' => ∀ vs H', Rel K cx S' H' → Keep S S' H H' → Paired (RepX K H' S') xs vs → Q vs H'
noncomputable def liftA (K : Frag) (cx : Cls2) (w : WE) : TA := fun σ H Q => ∃ S σ2, Rel K cx S H ∧ RelX K S H σ2 σ ∧ w σ2 S (kA K cx S H Q)
noncomputable def kT (K : Frag) (cx : Cls2) (S : Hs) (H : Hp) (Q : Bool → Hp → Prop) : LK2 := one1 (tstK fun b S' => ∀ H', Rel K cx S' H' → Keep S S' H H' → Q b H')
noncomputable def liftT (K : Frag) (cx : Cls2) (w : WE) : TT := fun σ H Q => ∃ S σ2, Rel K cx S H ∧ RelX K S H σ2 σ ∧ w σ2 S (kT K cx S H Q)
section
variable {K : Frag} {cx : Cls2} {S S' S1 : Hs} {H H' H1 H0 : Hp} {Q : VK} {σ2 : Sl} {σ : L2.St}
theorem RepX.keep (k : Keep S S' H H') (hr : Rel K cx S H) {x : Vx} {v : V} (r : RepX K H S x v) : RepX K H' S' x v := by
  have t := k.tups hr
  cases x with
  | d y => exact RepV.keep t _ _ r
  | vl ds => obtain ⟨a, vs, e, h, n, r⟩ := r; exact ⟨a, vs, e, (k.kp _ _ h n).1, (k.kp _ _ h n).2, r.keep t⟩
  | bw ds => obtain ⟨a, vs, e, h, n, r⟩ := r; exact ⟨a, vs, e, (k.kp _ _ h n).1, (k.kp _ _ h n).2, r.keep t⟩
  | fz ds =>
    obtain ⟨a, vs, e, h, r⟩ := r
    refine ⟨a, vs, e, ?_, r.keep t⟩
    rcases h with ⟨o, h, n⟩ | h
    · exact .inl ⟨o, (k.kp _ _ h n).1, (k.kp _ _ h n).2⟩
    · exact .inr h
  | vd ds => obtain ⟨a, vs, e, h, n, r⟩ := r; exact ⟨a, vs, e, (k.kp _ _ h n).1, (k.kp _ _ h n).2, r.keep t⟩
  | bd ds => obtain ⟨a, vs, e, h, n, r⟩ := r; exact ⟨a, vs, e, (k.kp _ _ h n).1, (k.kp _ _ h n).2, r.keep t⟩
  | st ds => exact r.elim
theorem RelX.keep (k : Keep S S' H H') (hr : Rel K cx S H) (r : RelX K S H σ2 σ) : RelX K S' H' σ2 σ := ⟨r.1, fun i x e => let ⟨v, h1, h2⟩ := r.2 i x e; ⟨v, h1, h2.keep k hr⟩⟩
theorem RepR.of (k : Keep S S1 H H1) {x : Vx} {v : V} (r : RepR K H1 H' S' x v) : RepR K H H' S' x v := ⟨r.1, fun e => let ⟨a, h1, h2⟩ := r.2 e; ⟨a, h1, k.up a h2⟩⟩
theorem KVof.of (k : Keep S S1 H H1) {z : Vx} (q : KVof K cx S H Q z S') : KVof K cx S1 H1 Q z S' := fun v H' hr k' r => q v H' hr (k.trans k') (r.of k)
theorem one1_of {P : VK2} {xs : List Vx} (h : one1 P xs S) : ∃ x, xs = [x] ∧ P x S := by
  unfold one1 at h
  split at h
  · exact ⟨_, rfl, h⟩
  · exact h.elim
theorem tstK_of {P : Bool → Hs → Prop} {x : Vx} (h : tstK P x S) : ∃ b, x = .d (.bl b) ∧ P b S := by
  unfold tstK at h
  split at h
  · exact ⟨_, rfl, h⟩
  · exact h.elim
theorem RepX.bor {x : Vx} {v : V} (r : RepX K H S x v) : RepX K H S (DL.bor x) v := by
  cases x <;> exact r
theorem bor_own (x : Vx) : own (DL.bor x) = false := by cases x <;> rfl
end
section
variable {T : Tbl} {c : Nat → List Vx → Hs → VK2 → Prop} {K : Frag} {cx : Cls2} {S : Hs} {H : Hp} {σ2 : Sl} {σ : L2.St}
theorem stepE (hc : CalMono c) {r : R} {P : VK2} {Q : VK} (hr : Rel K cx S H) (rs : RelX K S H σ2 σ) (w : wpE T c r σ2 S (one1 P))
    (h : ∀ x S1 v H1, Rel K cx S1 H1 → Keep S S1 H H1 → RelX K S1 H1 σ2 σ → RepR K H H1 S1 x v → P x S1 → Q v H1) : liftE K cx (wpE T c r) σ H Q :=
  ⟨S, σ2, hr, rs, wpE_mono hc w fun xs S1 q => let ⟨x, e, p⟩ := one1_of q; ⟨x, e, fun v H1 hr1 k r1 => h x S1 v H1 hr1 k (rs.keep k hr) r1 p⟩⟩
theorem stepA (hc : CalMono c) {r : R} {P : LK2} {Q : List V → Hp → Prop} (hr : Rel K cx S H) (rs : RelX K S H σ2 σ) (w : wpE T c r σ2 S P)
    (h : ∀ xs S1 vs H1, Rel K cx S1 H1 → Keep S S1 H H1 → RelX K S1 H1 σ2 σ → Paired (RepX K H1 S1) xs vs → P xs S1 → Q vs H1) : liftA K cx (wpE T c r) σ H Q :=
  ⟨S, σ2, hr, rs, wpE_mono hc w fun xs S1 p vs H1 hr1 k r1 => h xs S1 vs H1 hr1 k (rs.keep k hr) r1 p⟩
theorem stepT (hc : CalMono c) {r : R} {P : Bool → Hs → Prop} {Q : Bool → Hp → Prop} (hr : Rel K cx S H) (rs : RelX K S H σ2 σ) (w : wpE T c r σ2 S (one1 (tstK P)))
    (h : ∀ b S1 H1, Rel K cx S1 H1 → Keep S S1 H H1 → RelX K S1 H1 σ2 σ → P b S1 → Q b H1) : liftT K cx (wpE T c r) σ H Q :=
  ⟨S, σ2, hr, rs, wpE_mono hc w fun xs S1 => one1_mono fun x S1 => tstK_mono fun b S1 p H1 hr1 k => h b S1 H1 hr1 k (rs.keep k hr) p⟩
end
section
variable {X : Cx}
theorem peImp {e : Expr} {t t' : TE} (h : PE X e t) (i : ∀ σ H Q, t' σ H Q → t σ H Q) : PE X e t' := ⟨fun pins s σ H Q I w => h.run pins s σ H Q I (i _ _ _ w)⟩
theorem ptImp {e : Expr} {t t' : TT} (h : PT X e t) (i : ∀ σ H Q, t' σ H Q → t σ H Q) : PT X e t' := ⟨fun pins s σ H Q I w => h.run pins s σ H Q I (i _ _ _ w)⟩
theorem pwImp {e : Expr} {t t' : TT} (h : PW X e t) (i : ∀ σ H Q, t' σ H Q → t σ H Q) : PW X e t' := ⟨fun wh pins s σ H Q I w => h.run wh pins s σ H Q I (i _ _ _ w)⟩
theorem paImp {e : List Expr} {t t' : TA} (h : PA X e t) (i : ∀ σ H Q, t' σ H Q → t σ H Q) : PA X e t' := ⟨fun p pins s σ H Q I w => h.run p pins s σ H Q I (i _ _ _ w)⟩
variable {T : Tbl} {c : Nat → List Vx → Hs → VK2 → Prop} {cx : Cls2} (hc : CalMono c)
include hc
theorem snd_v {i : Nat} {x : Str} {pos : Pos} (hN : X.N[i]? = some x) (hv : Vis X.env.scope x) (h1 : (x == ("__debug__" : Str)) = false) (h2 : (x == ("__classdict__" : Str)) = false) : PE X (.Name x pos) (liftE X.K cx (wpE T c (.v i))) :=
  peImp (pe_var hN hv h1 h2) fun σ H Q ⟨S, σ2, hr, rs, x, e, y, e', q⟩ => by
    cases e'
    obtain ⟨v, h1, h2⟩ := rs.2 i x e
    exact ⟨v, h1, fin q hr h2.bor (bor_own x)⟩
theorem snd_i {i : Int} {k : Nat} {pos : Pos} : PE X (.Constant (.int i) k pos) (liftE X.K cx (wpE T c (.i i))) := peImp pe_int fun σ H Q ⟨S, σ2, hr, rs, y, e', q⟩ => by cases e'; exact fin_d q hr rfl
theorem snd_b {b : Bool} {k : Nat} {pos : Pos} : PE X (.Constant (.bool b) k pos) (liftE X.K cx (wpE T c (.b b))) := peImp pe_bl fun σ H Q ⟨S, σ2, hr, rs, y, e', q⟩ => by cases e'; exact fin_d q hr rfl
theorem snd_n {k : Nat} {pos : Pos} : PE X (.Constant .none k pos) (liftE X.K cx (wpE T c .n)) := peImp pe_non fun σ H Q ⟨S, σ2, hr, rs, y, e', q⟩ => by cases e'; exact fin_d q hr rfl
theorem snd_s {s : List Nat} {x : Str} (hs : x = sv s) {k : Nat} {pos : Pos} : PE X (.Constant (.str x) k pos) (liftE X.K cx (wpE T c (.s s))) := peImp pe_str fun σ H Q ⟨S, σ2, hr, rs, y, e', q⟩ => by subst hs; cases e'; exact fin_d q hr rfl
theorem lift_bin {f : Vx → Vx → Hs → VK2 → Prop} (hf : ∀ x y S Q Q', (∀ z S, Q z S → Q' z S) → f x y S Q → f x y S Q') {a b : R} {σ : L2.St} {H : Hp} {Q : VK} {S : Hs} {σ2 : Sl} (hr : Rel X.K cx S H) (rs : RelX X.K S H σ2 σ)
    (w : wpE T c a σ2 S (one1 fun x S1 => wpE T c b σ2 S1 (one1 fun y S2 => f x y S2 fun z S3 => kE X.K cx S H Q [z] S3))) : tOp (r2of X.K cx f) (liftE X.K cx (wpE T c a)) (liftE X.K cx (wpE T c b)) σ H Q :=
  stepE hc hr rs w fun x S1 v H1 hr1 k1 rs1 r1 w => stepE hc hr1 rs1 w fun y S2 u H2 hr2 k2 rs2 r2 w =>
    ⟨S2, x, y, hr2, r1.1.keep k2 hr1, r2.1, hf _ _ _ _ _ (fun z S3 ⟨z', e, q⟩ => by cases e; exact KVof.of (k1.trans k2) q) w⟩
theorem snd_bin {op : Operator} {o : O2} (ho : OpR X (binaryOp op) (r2of X.K cx (op2D o))) {a b : R} {ea eb : Expr} {pos : Pos} (ha : PE X ea (liftE X.K cx (wpE T c a))) (hb : PE X eb (liftE X.K cx (wpE T c b))) :
    PE X (.BinOp ea op eb pos) (liftE X.K cx (wpE T c (.o2 o a b))) := peImp (pe_op ho ha hb) fun σ H Q ⟨S, σ2, hr, rs, w⟩ => lift_bin hc (f := op2D _) (fun _ _ _ _ _ h => op2D_mono h) hr rs w
theorem snd_cmp {op : CmpOp} {o : O2} (ho : OpR X (compareOp op) (r2of X.K cx (op2D o))) {a b : R} {ea eb : Expr} {pos : Pos} (hm : behindInMarks op eb = false) (ha : PE X ea (liftE X.K cx (wpE T c a))) (hb : PE X eb (liftE X.K cx (wpE T c b))) :
    PE X (.Compare ea [op] [eb] pos) (liftE X.K cx (wpE T c (.o2 o a b))) := peImp (pe_cmpR ho ha hb hm) fun σ H Q ⟨S, σ2, hr, rs, w⟩ => lift_bin hc (f := op2D _) (fun _ _ _ _ _ h => op2D_mono h) hr rs w
theorem snd_ix (ho : IxR X (r2of X.K cx (op2D .idx))) {a b : R} {ea eb : Expr} {pos : Pos} (hp : PlainIx eb) (ha : PE X ea (liftE X.K cx (wpE T c a))) (hb : PE X eb (liftE X.K cx (wpE T c b))) :
    PE X (.Subscript ea eb pos) (liftE X.K cx (wpE T c (.o2 .idx a b))) := peImp (pe_ix ho ha hb hp) fun σ H Q ⟨S, σ2, hr, rs, w⟩ => lift_bin hc (f := op2D _) (fun _ _ _ _ _ h => op2D_mono h) hr rs w
theorem snd_neg {a : R} {ea : Expr} {pos : Pos} (ha : PE X ea (liftE X.K cx (wpE T c a))) : PE X (.UnaryOp .USub ea pos) (liftE X.K cx (wpE T c (.o1 .neg a))) :=
  peImp (pe_un (op1_neg (cx := cx)) ha) fun σ H Q ⟨S, σ2, hr, rs, w⟩ => stepE hc hr rs w fun x S1 v H1 hr1 k1 rs1 r1 w =>
    ⟨S1, x, hr1, r1.1, op1D_mono (fun z S3 ⟨z', e, q⟩ => by cases e; exact KVof.of k1 q) w⟩
theorem kE_bl {S S1 : Hs} {H : Hp} {Q : VK} {b : Bool} (q : kE X.K cx S H Q [.d (.bl b)] S1) {H1 : Hp} (k : Keep S S1 H H1) (hr1 : Rel X.K cx S1 H1) : Q (.bl b) H1 := by
  obtain ⟨x, e, q⟩ := q
  cases e
  exact fin_bl (KVof.of k q) hr1
theorem kE_of {S S1 : Hs} {H : Hp} {Q : VK} {xs : List Vx} {S' : Hs} (q : kE X.K cx S H Q xs S') {H1 : Hp} (k : Keep S S1 H H1) : kE X.K cx S1 H1 Q xs S' := let ⟨x, e, q⟩ := q; ⟨x, e, KVof.of k q⟩
theorem snd_not {a : R} {ea : Expr} {pos : Pos} (ha : PE X ea (liftE X.K cx (wpE T c a))) : PE X (.UnaryOp .Not ea pos) (liftE X.K cx (wpE T c (.not a))) :=
  peImp (pe_not ha) fun σ H Q ⟨S, σ2, hr, rs, w⟩ => stepE hc hr rs w fun x S1 v H1 hr1 k1 rs1 r1 w => by
    obtain ⟨b, rfl, w⟩ := tstK_of w
    cases r1.1
    exact ⟨b, rfl, kE_bl hc w k1 hr1⟩
theorem snd_one {op : BoolOp} {a : R} {ea : Expr} {pos : Pos} (ha : PE X ea (liftE X.K cx (wpE T c a))) : PE X (.BoolOp op [ea] pos) (liftE X.K cx (wpE T c (.one a))) :=
  peImp (pe_one ha) fun σ H Q ⟨S, σ2, hr, rs, w⟩ => stepE hc hr rs w fun x S1 v H1 hr1 k1 rs1 r1 w => by
    obtain ⟨b, rfl, w⟩ := tstK_of w
    cases r1.1
    exact kE_bl hc w k1 hr1
theorem snd_and {a r : R} {ea eb : Expr} {er : List Expr} {pos : Pos} (ha : PE X ea (liftE X.K cx (wpE T c a))) (hb : PE X (.BoolOp .And (eb :: er) pos) (liftE X.K cx (wpE T c r))) :
    PE X (.BoolOp .And (ea :: eb :: er) pos) (liftE X.K cx (wpE T c (.and a r))) :=
  peImp (pe_and ha hb) fun σ H Q ⟨S, σ2, hr, rs, w⟩ => stepE hc hr rs w fun x S1 v H1 hr1 k1 rs1 r1 w => by
    obtain ⟨b, rfl, w⟩ := tstK_of w
    cases r1.1
    refine ⟨b, rfl, ?_⟩
    cases b with
    | true => exact iteT ⟨S1, σ2, hr1, rs1, wpE_mono hc (w.t rfl) fun xs S' q => kE_of hc q k1⟩
    | false => exact iteF (kE_bl hc (w.f rfl) k1 hr1)
theorem snd_or {a r : R} {ea eb : Expr} {er : List Expr} {pos : Pos} (ha : PE X ea (liftE X.K cx (wpE T c a))) (hb : PE X (.BoolOp .Or (eb :: er) pos) (liftE X.K cx (wpE T c r))) :
    PE X (.BoolOp .Or (ea :: eb :: er) pos) (liftE X.K cx (wpE T c (.or a r))) :=
  peImp (pe_or ha hb) fun σ H Q ⟨S, σ2, hr, rs, w⟩ => stepE hc hr rs w fun x S1 v H1 hr1 k1 rs1 r1 w => by
    obtain ⟨b, rfl, w⟩ := tstK_of w
    cases r1.1
    refine ⟨b, rfl, ?_⟩
    cases b with
    | true => exact iteT (kE_bl hc (w.t rfl) k1 hr1)
    | false => exact iteF ⟨S1, σ2, hr1, rs1, wpE_mono hc (w.f rfl) fun xs S' q => kE_of hc q k1⟩
theorem snd_ife {k a b : R} {ek ea eb : Expr} {pos : Pos} (hk : PT X ek (liftT X.K cx (wpE T c k))) (ha : PE X ea (liftE X.K cx (wpE T c a))) (hb : PE X eb (liftE X.K cx (wpE T c b))) :
    PE X (.IfExp ek ea eb pos) (liftE X.K cx (wpE T c (.ife k a b))) :=
  peImp (pe_ifExp hk ha hb) fun σ H Q ⟨S, σ2, hr, rs, w⟩ => stepT hc hr rs w fun b S1 H1 hr1 k1 rs1 w => by
    cases b with
    | true => exact iteT ⟨S1, σ2, hr1, rs1, wpE_mono hc (w.t rfl) fun xs S' q => by obtain ⟨x, rfl, q⟩ := one1_of q; exact kE_of hc q k1⟩
    | false => exact iteF ⟨S1, σ2, hr1, rs1, wpE_mono hc (w.f rfl) fun xs S' q => by obtain ⟨x, rfl, q⟩ := one1_of q; exact kE_of hc q k1⟩
theorem snd_chain {o o' : O2} {op op' : CmpOp} (ho : OpR X (compareOp op) (r2of X.K cx (op2D o))) (ho' : OpR X (compareOp op') (r2of X.K cx (op2D o'))) {a b k : R} {ea eb ek : Expr} {pos : Pos}
    (ha : PE X ea (liftE X.K cx (wpE T c a))) (hb : PE X eb (liftE X.K cx (wpE T c b))) (hk : PE X ek (liftE X.K cx (wpE T c k))) (h1 : behindInMarks op eb = false) (h2 : behindInMarks op' ek = false) :
    (PE X (.Compare ea [op, op'] [eb, ek] pos) (liftE X.K cx (wpE T c (.chain o o' a b k)))) ∧ PT X (.Compare ea [op, op'] [eb, ek] pos) (liftT X.K cx (wpE T c (.chain o o' a b k))) := by
  have hm : lastMarks [op, op'] [eb, ek] = false := by
    first
      | exact h2
      | (simp only [lastMarks]; exact h2)
      | (unfold lastMarks; simp [h1, h2])
  have key : ∀ {σ : L2.St} {H : Hp} {Q : Bool → Hp → Prop} {S : Hs} {σ2 : Sl} {P : LK2}, Rel X.K cx S H → RelX X.K S H σ2 σ → wpE T c (.chain o o' a b k) σ2 S P → (∀ bb S' H', P [.d (.bl bb)] S' → Rel X.K cx S' H' → Keep S S' H H' → Q bb H') →
      tChain (r2of X.K cx (op2D o)) (r2of X.K cx (op2D o')) (liftE X.K cx (wpE T c a)) (liftE X.K cx (wpE T c b)) (liftE X.K cx (wpE T c k)) σ H (fun z H' => ∃ bb, z = .bl bb ∧ Q bb H') := fun {σ H Q S σ2 P} hr rs w fin =>
    stepE hc hr rs w fun x S1 v H1 hr1 k1 rs1 r1 w => stepE hc hr1 rs1 w fun y S2 u H2 hr2 k2 rs2 r2 w =>
      ⟨S2, x, y, hr2, r1.1.keep k2 hr1, r2.1, op2D_mono (fun z S3 q => by
        obtain ⟨bb, rfl, q⟩ := tstK_of q
        intro z H3 hr3 k3 r3
        cases r3.1
        refine ⟨bb, rfl, ?_⟩
        have rs3 := rs2.keep k3 hr2
        have ry3 := r2.1.keep k3 hr2
        cases bb with
        | true =>
          refine iteT (stepE hc hr3 rs3 (q.t rfl) fun z S4 zv H4 hr4 k4 rs4 r4 w => ⟨S4, y, z, hr4, ry3.keep k4 hr3, r4.1, op2D_mono (fun z' S5 q => ?_) w⟩)
          obtain ⟨b2, rfl, q⟩ := tstK_of q
          intro z' H5 hr5 k5 r5
          cases r5.1
          exact ⟨b2, rfl, fin _ _ _ q hr5 ((((k1.trans k2).trans k3).trans k4).trans k5)⟩
        | false => exact iteF ⟨false, rfl, fin _ _ _ (q.f rfl) hr3 ((k1.trans k2).trans k3)⟩) w⟩
  refine ⟨⟨fun pins s σ H Q I ⟨S, σ2, hr, rs, w⟩ => ?_⟩, ptImp (pt_chain ho ho' ha hb hk hm) fun σ H Q ⟨S, σ2, hr, rs, w⟩ => ?_⟩
  · have h := key (Q := fun bb H' => Q (.bl bb) H') hr rs w fun bb S' H' q hr' k => by
      obtain ⟨x, e, q⟩ := q
      cases e
      exact q _ _ hr' k ⟨rfl, fun e => by cases e⟩
    exact thn ((pe_chain ho ho' ha hb hk hm).run pins s σ H _ I h) fun u s' ⟨v, H', I', rv, bb, e, q⟩ => ⟨v, H', I', rv, by subst e; exact q⟩
  · exact key (Q := Q) hr rs w fun bb S' H' q hr' k => q H' hr' k
theorem snd_nil : PA X [] (liftA X.K cx (wpE T c .nil)) := paImp pa_nil fun σ H Q ⟨S, σ2, hr, rs, w⟩ => w [] H hr .refl .nil
theorem snd_cons {a r : R} {e : Expr} {es : List Expr} (ha : PE X e (liftE X.K cx (wpE T c a))) (hb : PA X es (liftA X.K cx (wpE T c r))) (hs : starEach (e :: es) X.env = (false, eval e X.env) :: starEach es X.env) :
    PA X (e :: es) (liftA X.K cx (wpE T c (.cons a r))) :=
  paImp (pa_cons ha hb hs) fun σ H Q ⟨S, σ2, hr, rs, w⟩ => stepE hc hr rs w fun x S1 v H1 hr1 k1 rs1 r1 w => stepA hc hr1 rs1 w fun xs S2 vs H2 hr2 k2 rs2 r2 w =>
    w (v :: vs) H2 hr2 (k1.trans k2) (.cons (r1.1.bor.keep k2 hr1) r2)
theorem rel_box {K : Frag} {S S1 : Hs} {H H1 : Hp} {x : Vx} {v : V} {P : D → Hs → Prop} (hr1 : Rel K cx S1 H1) (k1 : Keep S S1 H H1) (r : RepR K H H1 S1 x v) (w : bx x S1 P) :
    ∃ d S2, P d S2 ∧ Rel K cx S2 H1 ∧ Keep S S2 H H1 ∧ RepV K H1 d v ∧ (S2 = S1 ∨ ∃ a o, v = .ref a ∧ S1 a = none ∧ H a = none ∧ S2 = su S1 a o) := by
  cases x with
  | d y => exact ⟨y, S1, w, hr1, k1, r.1, .inl rfl⟩
  | vl ds =>
    obtain ⟨⟨a, vs, rfl, h, n, r1⟩, f⟩ := r
    obtain ⟨a', e, n'⟩ := f rfl
    cases e
    refine ⟨.ref a, su S1 a (.lst ds), w a n, hr1.box ⟨vs, h, r1⟩, ⟨fun b o e z => ?_, k1.up⟩, rfl, .inr ⟨a, _, rfl, n, n', rfl⟩⟩
    obtain ⟨h1, h2⟩ := k1.kp b o e z
    refine ⟨h1, ?_⟩
    rw [su_ne (ne_of_none e n')]
    exact h2
  | vd ds =>
    obtain ⟨⟨a, vs, rfl, h, n, r1⟩, f⟩ := r
    obtain ⟨a', e, n'⟩ := f rfl
    cases e
    refine ⟨.ref a, su S1 a (.dic ds), w a n, hr1.box ⟨vs, h, r1⟩, ⟨fun b o e z => ?_, k1.up⟩, rfl, .inr ⟨a, _, rfl, n, n', rfl⟩⟩
    obtain ⟨h1, h2⟩ := k1.kp b o e z
    refine ⟨h1, ?_⟩
    rw [su_ne (ne_of_none e n')]
    exact h2
  | bw _ => exact w.elim
  | fz _ => exact w.elim
  | bd _ => exact w.elim
  | st _ => exact w.elim
theorem snd_consb {a r : R} {e : Expr} {es : List Expr} (ha : PE X e (liftE X.K cx (wpE T c a))) (hb : PA X es (liftA X.K cx (wpE T c r))) (hs : starEach (e :: es) X.env = (false, eval e X.env) :: starEach es X.env) :
    PA X (e :: es) (liftA X.K cx (wpE T c (.consb a r))) :=
  paImp (pa_cons ha hb hs) fun σ H Q ⟨S, σ2, hr, rs, w⟩ => stepE hc hr rs w fun x S1 v H1 hr1 k1 rs1 r1 w => by
    obtain ⟨d, S2, w, hr2, k2, r2, _⟩ := rel_box hc hr1 k1 r1 w
    refine stepA hc hr2 (rs.keep k2 hr) w fun xs S3 vs H3 hr3 k3 rs3 r3 w => ?_
    exact w (v :: vs) H3 hr3 (k2.trans k3) (.cons (RepV.keep (k3.tups hr2) _ _ r2) r3)
theorem map_d {K : Frag} {S : Hs} {H : Hp} : ∀ {ds : List D} {vs : List V}, Paired (RepX K H S) (ds.map Vx.d) vs → RepL K H ds vs
  | [], _, .nil => rfl
  | d :: ds, _, .cons r t => ⟨_, _, rfl, r, map_d t⟩
theorem snd_tup {as : R} {es : List Expr} {x1 : Nat} {pos : Pos} (h : PA X es (liftA X.K cx (wpE T c as))) : PE X (.Tuple es x1 pos) (liftE X.K cx (wpE T c (.tup as))) :=
  peImp (pe_tup h) fun σ H Q ⟨S, σ2, hr, rs, w⟩ => stepA hc hr rs w fun xs S1 vs H1 hr1 k1 rs1 r1 ⟨ds, e, hz, w⟩ => by
    have e := unD_map e
    subst e
    have r := map_d hc r1
    obtain ⟨x, e, q⟩ := w
    cases e
    exact ⟨by rw [← r.length]; exact hz, fin_tup (KVof.of k1 q) hr1 r⟩
theorem snd_lst {as : R} {es : List Expr} {pos : Pos} (h : PA X es (liftA X.K cx (wpE T c as))) : PE X (.List es pos) (liftE X.K cx (wpE T c (.lst as))) :=
  peImp (pe_lst h) fun σ H Q ⟨S, σ2, hr, rs, w⟩ => stepA hc hr rs w fun xs S1 vs H1 hr1 k1 rs1 r1 ⟨ds, e, hz, w⟩ => by
    have e := unD_map e
    subst e
    have r := map_d hc r1
    obtain ⟨x, e, q⟩ := w
    cases e
    exact ⟨by rw [← r.length]; exact hz, fin_vl (KVof.of k1 q) hr1 r⟩
theorem snd_dct {pos : Pos} : PE X (.Dict [] [] pos) (liftE X.K cx (wpE T c .dct)) :=
  peImp pe_dnewK fun σ H Q ⟨S, σ2, hr, rs, w⟩ => fun p n => by
    obtain ⟨x, e, q⟩ := w
    cases e
    exact q _ _ (hr.upd0 (hr.free n) (tupS_new n)) (.new n) ⟨⟨p, [], rfl, upd_same, hr.free n, .nil⟩, fun _ => ⟨p, rfl, n⟩⟩
theorem snd_call1 {o : O1} {a : R} {ea : Expr} {e : Expr} (hp : ∀ t : TA, PA X [ea] t → PE X e (tCB (c1of X.K cx o) t))
    (hs : starEach [ea] X.env = [(false, eval ea X.env)]) (ha : PE X ea (liftE X.K cx (wpE T c a))) : PE X e (liftE X.K cx (wpE T c (.o1 o a))) :=
  peImp (hp _ (pa_cons ha pa_nil hs)) fun σ H Q ⟨S, σ2, hr, rs, w⟩ => stepE hc hr rs w fun x S1 v H1 hr1 k1 rs1 r1 w =>
    ⟨v, rfl, S1, x, hr1, r1.1, op1D_mono (fun z S3 ⟨z', e, q⟩ => by cases e; exact KVof.of k1 q) w⟩
theorem snd_call2 {o : O2} {a b : R} {ea eb : Expr} {e : Expr} (hp : ∀ t : TA, PA X [ea, eb] t → PE X e (tCB (c2of X.K cx o) t))
    (hs : starEach [ea, eb] X.env = (false, eval ea X.env) :: starEach [eb] X.env) (hs2 : starEach [eb] X.env = [(false, eval eb X.env)]) (ha : PE X ea (liftE X.K cx (wpE T c a))) (hb : PE X eb (liftE X.K cx (wpE T c b))) : PE X e (liftE X.K cx (wpE T c (.o2 o a b))) :=
  peImp (hp _ (pa_cons ha (pa_cons hb pa_nil hs2) hs)) fun σ H Q ⟨S, σ2, hr, rs, w⟩ => stepE hc hr rs w fun x S1 v H1 hr1 k1 rs1 r1 w => stepE hc hr1 rs1 w fun y S2 u H2 hr2 k2 rs2 r2 w =>
    ⟨v, u, rfl, S2, x, y, hr2, r1.1.keep k2 hr1, r2.1, op2D_mono (fun z S3 ⟨z', e, q⟩ => by cases e; exact KVof.of (k1.trans k2) q) w⟩
theorem snd_isi {t : Ty} {a : R} {ea et : Expr} {e : Expr} (hp : ∀ t' : TA, PA X [ea, et] t' → PE X e (tCB (fun vs H Q => ∃ v, vs = [v, .ty t.nm] ∧ r1of X.K cx (op1D (.isi t)) v H Q) t'))
    (hs : starEach [ea, et] X.env = (false, eval ea X.env) :: starEach [et] X.env) (hs2 : starEach [et] X.env = [(false, eval et X.env)]) (ha : PE X ea (liftE X.K cx (wpE T c a))) (hb : PE X et (tC (.ty t.nm))) : PE X e (liftE X.K cx (wpE T c (.o1 (.isi t) a))) :=
  peImp (hp _ (pa_cons ha (pa_cons hb pa_nil hs2) hs)) fun σ H Q ⟨S, σ2, hr, rs, w⟩ => stepE hc hr rs w fun x S1 v H1 hr1 k1 rs1 r1 w =>
    ⟨v, rfl, S1, x, hr1, r1.1, op1D_mono (fun z S3 ⟨z', e, q⟩ => by cases e; exact KVof.of k1 q) w⟩
end
section
variable {X : Cx} {T : Tbl} {c : Nat → List Vx → Hs → VK2 → Prop} {cx : Cls2} (hc : CalMono c)
include hc
theorem kT_of {K : Frag} {S S1 S' : Hs} {H H1 : Hp} {Q : Bool → Hp → Prop} {xs : List Vx} (q : kT K cx S H Q xs S') (k : Keep S S1 H H1) : kT K cx S1 H1 Q xs S' :=
  one1_mono (fun x S => tstK_mono fun b S q H' hr' k' => q H' hr' (k.trans k')) q
theorem kT_elim {K : Frag} {S S' : Hs} {H : Hp} {Q : Bool → Hp → Prop} {xs : List Vx} (q : kT K cx S H Q xs S') : ∃ b, xs = [.d (.bl b)] ∧ ∀ H', Rel K cx S' H' → Keep S S' H H' → Q b H' := by
  obtain ⟨x, e, q⟩ := one1_of q
  obtain ⟨b, e', q⟩ := tstK_of q
  subst e e'
  exact ⟨b, rfl, q⟩
theorem tst_val {r : R} {e : Expr} (h : PE X e (liftE X.K cx (wpE T c r))) (he : ∀ whole, isTrue e X.env whole = (do let v ← whole; standAt e.pos; holding [v] (truthy v))) : PT X e (liftT X.K cx (wpE T c r)) :=
  ptImp (pt_val h he) fun σ H Q ⟨S, σ2, hr, rs, w⟩ => ⟨S, σ2, hr, rs, wpE_mono hc w fun xs S1 q => by
    obtain ⟨b, rfl, q⟩ := kT_elim hc q
    refine ⟨_, rfl, fun v H' hr' k r => ?_⟩
    cases r.1
    exact ⟨b, rfl, q H' hr' k⟩⟩
theorem tst_cmp {op : CmpOp} {o : O2} (ho : OpR X (compareOp op) (r2of X.K cx (op2D o))) {a b : R} {ea eb : Expr} {pos : Pos} (hm : behindInMarks op eb = false) (ha : PE X ea (liftE X.K cx (wpE T c a))) (hb : PE X eb (liftE X.K cx (wpE T c b))) :
    PT X (.Compare ea [op] [eb] pos) (liftT X.K cx (wpE T c (.o2 o a b))) := ptImp (pt_cmpR ho ha hb hm) fun σ H Q ⟨S, σ2, hr, rs, w⟩ =>
  stepE hc hr rs w fun x S1 v H1 hr1 k1 rs1 r1 w => stepE hc hr1 rs1 w fun y S2 u H2 hr2 k2 rs2 r2 w =>
    ⟨S2, x, y, hr2, r1.1.keep k2 hr1, r2.1, op2D_mono (fun z S3 q => by
      obtain ⟨b, e, q⟩ := kT_elim hc q
      cases e
      intro v H' hr' k r
      cases r.1
      exact ⟨b, rfl, q H' hr' ((k1.trans k2).trans k)⟩) w⟩
theorem tst_not {a : R} {ea : Expr} {pos : Pos} (ha : PT X ea (liftT X.K cx (wpE T c a))) : PT X (.UnaryOp .Not ea pos) (liftT X.K cx (wpE T c (.not a))) :=
  ptImp (pt_not ha) fun σ H Q ⟨S, σ2, hr, rs, w⟩ => stepT hc hr rs w fun b S1 H1 hr1 k1 rs1 w => w H1 hr1 k1
theorem tst_one {op : BoolOp} {a : R} {ea : Expr} {pos : Pos} (ha : PT X ea (liftT X.K cx (wpE T c a))) : PW X (.BoolOp op [ea] pos) (liftT X.K cx (wpE T c (.one a))) := by
  have i : ∀ σ H Q, liftT X.K cx (wpE T c (.one a)) σ H Q → liftT X.K cx (wpE T c a) σ H Q := fun σ H Q ⟨S, σ2, hr, rs, w⟩ => stepT hc hr rs w fun b S1 H1 hr1 k1 rs1 w => w H1 hr1 k1
  cases op with
  | And => exact pwImp (pw_and1 ha) i
  | Or => exact pwImp (pw_or1 ha) i
theorem tst_and {a r : R} {ea eb : Expr} {er : List Expr} {pos : Pos} (ha : PT X ea (liftT X.K cx (wpE T c a))) (hb : PW X (.BoolOp .And (eb :: er) pos) (liftT X.K cx (wpE T c r))) :
    PW X (.BoolOp .And (ea :: eb :: er) pos) (liftT X.K cx (wpE T c (.and a r))) :=
  pwImp (pw_and ha hb) fun σ H Q ⟨S, σ2, hr, rs, w⟩ => stepT hc hr rs w fun b S1 H1 hr1 k1 rs1 w => by
    cases b with
    | true => exact iteT ⟨S1, σ2, hr1, rs1, wpE_mono hc (w.t rfl) fun xs S' q => kT_of hc q k1⟩
    | false => exact iteF (w.f rfl H1 hr1 k1)
theorem tst_or {a r : R} {ea eb : Expr} {er : List Expr} {pos : Pos} (ha : PT X ea (liftT X.K cx (wpE T c a))) (hb : PW X (.BoolOp .Or (eb :: er) pos) (liftT X.K cx (wpE T c r))) :
    PW X (.BoolOp .Or (ea :: eb :: er) pos) (liftT X.K cx (wpE T c (.or a r))) :=
  pwImp (pw_or ha hb) fun σ H Q ⟨S, σ2, hr, rs, w⟩ => stepT hc hr rs w fun b S1 H1 hr1 k1 rs1 w => by
    cases b with
    | true => exact iteT (w.t rfl H1 hr1 k1)
    | false => exact iteF ⟨S1, σ2, hr1, rs1, wpE_mono hc (w.f rfl) fun xs S' q => kT_of hc q k1⟩
noncomputable def PartOk (X : Cx) (T : Tbl) (c : Nat → List Vx → Hs → VK2 → Prop) (cx : Cls2) (a : R) (e : Option Expr) : Prop :=
  PO X e (fun σ H Q => ∃ S σ2, Rel X.K cx S H ∧ RelX X.K S H σ2 σ ∧ wpE T c a σ2 S (one1 fun l S' => ∃ l', optI a l = some l' ∧ ∀ H', Rel X.K cx S' H' → Keep S S' H H' → Q l' H'))
theorem part_n : PartOk X T c cx .n none := ⟨fun pins s σ H Q I ⟨S, σ2, hr, rs, l', e, w⟩ => (po_none (X := X)).run pins s σ H Q I (by cases e; exact w H hr .refl)⟩
theorem part_e {a : R} {ea : Expr} (hn : a ≠ .n) (ha : PE X ea (liftE X.K cx (wpE T c a))) : PartOk X T c cx a (some ea) :=
  ⟨fun pins s σ H Q I ⟨S, σ2, hr, rs, w⟩ => (po_some ha).run pins s σ H Q I (stepE hc hr rs w fun x S1 v H1 hr1 k1 rs1 r1 ⟨l', e, w⟩ => by
    unfold optI at e
    split at e
    · exact (hn rfl).elim
    · cases e
      cases r1.1
      exact ⟨_, rfl, w H1 hr1 k1⟩
    · cases e)⟩
theorem snd_slc {a lo hi : R} {ea : Expr} {el eh : Option Expr} {p2 pos : Pos} (ha : PE X ea (liftE X.K cx (wpE T c a))) (hl : PartOk X T c cx lo el) (hh : PartOk X T c cx hi eh) :
    PE X (.Subscript ea (.Slice el eh none p2) pos) (liftE X.K cx (wpE T c (.slc a lo hi))) :=
  peImp (pe_slice (slc_ok (cx := cx)) ha hl hh) fun σ H Q ⟨S, σ2, hr, rs, w⟩ => stepE hc hr rs w fun x S1 v H1 hr1 k1 rs1 r1 w => by
    refine ⟨S1, σ2, hr1, rs1, wpE_mono hc w fun ls S2 w => one1_mono (fun l S2 ⟨l', e, w⟩ => ⟨l', e, fun H2 hr2 k2 => ?_⟩) w⟩
    refine ⟨S2, σ2, hr2, rs1.keep k2 hr1, wpE_mono hc w fun us S3 w => one1_mono (fun u S3 ⟨u', e, w⟩ => ⟨u', e, fun H3 hr3 k3 => ?_⟩) w⟩
    exact ⟨S3, x, hr3, (r1.1.keep k2 hr1).keep k3 hr2, view_mono (fun c => slcC_mono fun z S4 ⟨z', e, q⟩ => by cases e; exact KVof.of ((k1.trans k2).trans k3) q) w⟩
theorem lookup_fld {ns : List Str} {fv : List (Str × V)} {k : Nat} {f : Str} {K : Frag} {H : Hp} {fs : List D} {d : D} (nd : ns.Nodup) (hm : fv.map Prod.fst = ns.take fs.length) (hf : ns[k]? = some f) (r : RepL K H fs (fv.map Prod.snd)) (e : fs[k]? = some d) :
    ∃ v, fv.lookup f = some v ∧ RepV K H d v := by
  obtain ⟨v, h1, h2⟩ := r.get e
  refine ⟨v, ?_, h2⟩
  have hk : k < fs.length := (List.getElem?_eq_some_iff.mp e).1
  have h3 : (fv.map Prod.fst)[k]? = some f := by rw [hm, List.getElem?_take_of_lt hk]; exact hf
  clear e r hk
  have nd' : (fv.map Prod.fst).Nodup := by rw [hm]; exact nd.sublist (List.take_sublist _ _)
  clear hm hf nd
  induction fv generalizing k with
  | nil => simp at h1
  | cons p r ih =>
    obtain ⟨g, u⟩ := p
    have nd' : (g :: r.map Prod.fst).Nodup := nd'
    cases k with
    | zero =>
      simp at h1 h3
      subst h1 h3
      simp [List.lookup]
    | succ k =>
      have h1 : (r.map Prod.snd)[k]? = some v := by simpa using h1
      have h3 : (r.map Prod.fst)[k]? = some f := by simpa using h3
      have ne : ¬ f = g := fun z => (List.nodup_cons.mp nd').1 (z ▸ List.mem_of_getElem? h3)
      have hb : (f == g) = false := beq_eq_false_iff_ne.mpr ne
      simp only [List.lookup, hb]
      exact ih h1 h3 (List.nodup_cons.mp nd').2
structure ClsOk (K : Frag) (cx : Cls2) (i : Nat) : Prop where
  cl : Cls K (cx.adr i)
  nd : (cx.lay i).Nodup
  few : (cx.lay i).length ≤ 50
  no : ∀ f ∈ cx.lay i, NoAttr K (cx.adr i) f
theorem snd_fld {o : R} {k ci : Nat} {f : Str} {eo : Expr} {pos : Pos} (ok : ClsOk X.K cx ci) (hf : (cx.lay ci)[k]? = some f) (ho : PE X eo (liftE X.K cx (wpE T c o))) (hb : attributeBase eo f X.env (eval eo X.env) = eval eo X.env) :
    PE X (.Attribute eo f pos) (liftE X.K cx (wpE T c (.fld o ci k))) :=
  peImp (pe_fld ho hb) fun σ H Q ⟨S, σ2, hr, rs, w⟩ => stepE hc hr rs w fun x S1 v H1 hr1 k1 rs1 r1 w => by
    obtain ⟨a, fs, rfl, e, y, ey, z, ez, q⟩ := w
    cases ez
    cases r1.1
    obtain ⟨dx, fv, h1, h2, h3, h4⟩ := hr1 a _ e
    obtain ⟨u, h5, h6⟩ := lookup_fld hc ok.nd h2 hf h4 ey
    exact ⟨a, _, dx, fv, u, rfl, h1, ok.cl, ok.no f (List.mem_of_getElem? hf), h5, fin_d (KVof.of k1 q) hr1 h6⟩
noncomputable def spOf (K : Frag) (cx : Cls2) (cal : Nat → List Vx → Hs → VK2 → Prop) (f np : Nat) : Sp := fun vs H Q _ => vs.length = np ∧ ∃ S xs, Rel K cx S H ∧ Paired (RepX K H S) xs vs ∧ cal f xs S (KVof K cx S H Q)
section
variable {k f np : Nat} {fa C : Addr} {fd : FuncData} {ps : List Str} {x m : Str} {as o : R} {es : List Expr} {e eo : Expr} {p pos apos : Pos}
theorem spOf_of {K : Frag} {S S1 : Hs} {H H1 : Hp} {Q : VK} {xs : List Vx} {vs : List V} {E : XK} (hr1 : Rel K cx S1 H1) (k1 : Keep S S1 H H1) (r1 : Paired (RepX K H1 S1) xs vs) (hl : vs.length = np) (w : c f xs S1 fun r S2 => kE K cx S H Q [r] S2) : spOf K cx c f np (vs ++ []) H1 Q E := by
  rw [List.append_nil]
  exact ⟨hl, S1, xs, hr1, r1, hc _ _ _ _ _ (fun z S3 ⟨z', e, q⟩ => by cases e; exact KVof.of k1 q) w⟩
noncomputable def NumOk (c : Nat → List Vx → Hs → VK2 → Prop) (f np : Nat) : Prop := ∀ xs S Q, c f xs S Q → xs.length = np
theorem snd_call (F : FnOk X.prog X.w X.K X.mg X.base CX0 k fa fd ps (spOf X.K cx c f np)) (hn : NumOk c f np) (hr : Room k X.A) (hg : Gl X x) (hm : X.mg x = some (.ref fa)) (hk : PySem.W.keepIn X.K (.ref fa) = true) (hb : Binds X.K fd ps [])
    (ha : PA X (e :: es) (liftA X.K cx (wpE T c as))) (hdb : (x == ("__debug__" : Str)) = false) (he : starEach (e :: es) X.env = (false, eval e X.env) :: starEach es X.env) (hpl : (backTo pos (starEach es X.env)).any (·.1) = false) :
    PE X (.Call (.Name x p) (e :: es) [] pos) (liftE X.K cx (wpE T c (.call f as))) :=
  peImp (pe_call F hr hg hm hk hb .nil (pass0 (X := X)) ha hdb he hpl) fun σ H Q ⟨S, σ2, hr, rs, w⟩ => stepA hc hr rs w fun xs S1 vs H1 hr1 k1 rs1 r1 w => spOf_of hc hr1 k1 r1 (by rw [← Paired.length r1]; exact hn _ _ _ w) w
theorem snd_call0 (F : FnOk X.prog X.w X.K X.mg X.base CX0 k fa fd ps (spOf X.K cx c f np)) (hn : NumOk c f np) (hr : Room k X.A) (hg : Gl X x) (hm : X.mg x = some (.ref fa)) (hk : PySem.W.keepIn X.K (.ref fa) = true) (hb : Binds X.K fd ps [])
    (ha : PA X [] (liftA X.K cx (wpE T c as))) (hdb : (x == ("__debug__" : Str)) = false) (has : as = .nil) :
    PE X (.Call (.Name x p) [] [] pos) (liftE X.K cx (wpE T c (.call f as))) :=
  peImp (pe_call0 F hr hg hm hk hb .nil (pass0 (X := X)) hdb) fun σ H Q ⟨S, σ2, hr, rs, w⟩ => by
    subst has
    exact spOf_of (E := E0) (vs := []) hc hr .refl .nil (by have := hn _ _ _ w; simpa using this) w
theorem lookup_none {ns : List Str} {fv : List (Str × V)} {m : Str} {n : Nat} (hm : fv.map Prod.fst = ns.take n) (hno : m ∉ ns) : fv.lookup m = none := by
  have h : m ∉ fv.map Prod.fst := fun z => hno (List.mem_of_mem_take (hm ▸ z))
  clear hm
  induction fv with
  | nil => rfl
  | cons q r ih =>
    obtain ⟨g, u⟩ := q
    have h : m ∉ g :: r.map Prod.fst := h
    have hb : (m == g) = false := beq_eq_false_iff_ne.mpr fun z => h (z ▸ List.mem_cons_self)
    simp only [List.lookup, hb]
    exact ih fun z => h (List.mem_cons_of_mem _ z)
theorem snd_meth {pl : Sem Bool} {ci : Nat} (hci : T.fcls f = ci) (hC : cx.adr ci = C) (hcl : Cls X.K C) (hm : Meth X.K C m fa) (hno : m ∉ cx.lay ci) (F : FnOk X.prog X.w X.K X.mg X.base CX0 k fa fd ps (spOf X.K cx c f np)) (hn : NumOk c f np) (hr : Room k X.A) (hb : Binds X.K fd ps [])
    (ho : PE X eo (liftE X.K cx (wpE T c o))) (ha : PA X (e :: es) (liftA X.K cx (wpE T c as)))
    (hst : starEach (e :: es) X.env = (false, eval e X.env) :: starEach es X.env) (hpl : (backTo pos (starEach es X.env)).any (·.1) = false)
    (ht : eval (.Call (.Attribute eo m apos) (e :: es) [] pos) X.env = (do
      let ov ← eval eo X.env
      standAt apos.atName
      let (f, first) ← holding [ov] (getMethod ov m pl)
      callWith pos f first (backTo pos (starEach (e :: es) X.env)) (backToKw pos (keywordEach [] X.env)))) :
    PE X (.Call (.Attribute eo m apos) (e :: es) [] pos) (liftE X.K cx (wpE T c (.meth f o as))) :=
  peImp (pe_meth ho hcl hm F hr hb .nil (pass0 (X := X)) ha hst hpl ht) fun σ H Q ⟨S, σ2, hr, rs, w⟩ => stepE hc hr rs w fun x S1 v H1 hr1 k1 rs1 r1 w => by
    obtain ⟨a, fs, rfl, e, w⟩ := w
    cases r1.1
    rw [hci] at e
    obtain ⟨dx, fv, h1, h2, h3, h4⟩ := hr1 a _ e
    refine ⟨a, dx, fv, rfl, by rw [← hC]; exact h1, lookup_none hc h2 hno, stepA hc hr1 rs1 w fun xs S2 vs H2 hr2 k2 rs2 r2 w => ?_⟩
    exact spOf_of hc hr2 (k1.trans k2) (.cons (r1.1.keep k2 hr1) r2) (by have := hn _ _ _ w; simpa [Paired.length r2] using this) w
theorem snd_meth0 {pl : Sem Bool} {ci : Nat} (hci : T.fcls f = ci) (hC : cx.adr ci = C) (hcl : Cls X.K C) (hm : Meth X.K C m fa) (hno : m ∉ cx.lay ci) (F : FnOk X.prog X.w X.K X.mg X.base CX0 k fa fd ps (spOf X.K cx c f np)) (hn : NumOk c f np) (hr : Room k X.A) (hb : Binds X.K fd ps [])
    (ho : PE X eo (liftE X.K cx (wpE T c o)))
    (ht : eval (.Call (.Attribute eo m apos) [] [] pos) X.env = (do
      let ov ← eval eo X.env
      standAt apos.atName
      let (f, first) ← holding [ov] (getMethod ov m pl)
      callWith pos f first (backTo pos (starEach [] X.env)) (backToKw pos (keywordEach [] X.env)))) :
    PE X (.Call (.Attribute eo m apos) [] [] pos) (liftE X.K cx (wpE T c (.meth f o .nil))) :=
  peImp (pe_meth0 ho hcl hm F hr hb .nil (pass0 (X := X)) ht) fun σ H Q ⟨S, σ2, hr, rs, w⟩ => stepE hc hr rs w fun x S1 v H1 hr1 k1 rs1 r1 w => by
    obtain ⟨a, fs, rfl, e, w⟩ := w
    cases r1.1
    rw [hci] at e
    obtain ⟨dx, fv, h1, h2, h3, h4⟩ := hr1 a _ e
    refine ⟨a, dx, fv, rfl, by rw [← hC]; exact h1, lookup_none hc h2 hno, ?_⟩
    exact spOf_of (E := E0) (vs := [.ref a]) hc hr1 k1 (.cons r1.1 .nil) (by have := hn _ _ _ w; simpa using this) w
theorem rel_made {K : Frag} {S S1 : Hs} {H H1 : Hp} {ci : Nat} {a dx : Addr} (hr1 : Rel K cx S1 H1) (k1 : Keep S S1 H H1) (n : H1 a = none) (nd : H1 dx = none) (ne : dx ≠ a) :
    Rel K cx (su S1 a (.ins ci [])) (upd (upd H1 dx (.own a)) a (.ins (cx.adr ci) dx [])) ∧ Keep S (su S1 a (.ins ci [])) H (upd (upd H1 dx (.own a)) a (.ins (cx.adr ci) dx [])) ∧ Keep S1 S1 H1 (upd (upd H1 dx (.own a)) a (.ins (cx.adr ci) dx [])) := by
  have n2 : upd H1 dx (.own a) a = none := by rw [upd_ne (Ne.symm ne)]; exact n
  have r1 : Rel K cx S1 (upd H1 dx (.own a)) := hr1.upd0 (hr1.free nd) (tupS_new nd)
  have k2 : Keep S1 S1 H1 (upd (upd H1 dx (.own a)) a (.ins (cx.adr ci) dx [])) := (Keep.new nd).trans (Keep.new n2)
  refine ⟨r1.upd1 (tupS_new n2) ⟨dx, [], upd_same, by simp, Nat.zero_le _, rfl⟩, ⟨fun b o e z => ?_, (k1.trans k2).up⟩, k2⟩
  obtain ⟨h1, h2⟩ := k1.kp b o e z
  refine ⟨(k2.kp b o h1 h2).1, ?_⟩
  rw [su_ne (ne_of_none h1 n)]
  exact h2
theorem snd_make {ci : Nat} (hini : T.cini ci = f) (hC : cx.adr ci = C) (M : Mk X.K C fa) (F : FnOk X.prog X.w X.K X.mg X.base CX0 k fa fd ps (spOf X.K cx c f np)) (hn : NumOk c f np) (hr : Room (k + 1) X.A) (hg : Gl X x) (hm : X.mg x = some (.ref C)) (hb : Binds X.K fd ps [])
    (ha : PA X (e :: es) (liftA X.K cx (wpE T c as))) (hdb : (x == ("__debug__" : Str)) = false) (he : starEach (e :: es) X.env = (false, eval e X.env) :: starEach es X.env) (hpl : (backTo pos (starEach es X.env)).any (·.1) = false) :
    PE X (.Call (.Name x p) (e :: es) [] pos) (liftE X.K cx (wpE T c (.make ci as))) :=
  peImp (pe_make M F hr hg hm hb .nil (pass0 (X := X)) ha hdb he hpl) fun σ H Q ⟨S, σ2, hr, rs, w⟩ => stepA hc hr rs w fun xs S1 vs H1 hr1 k1 rs1 r1 w => fun a dx n nd ne => by
    obtain ⟨h1, h2, h3⟩ := rel_made hc (ci := ci) hr1 k1 n nd ne
    rw [hC] at h1 h2 h3
    have w := w a (hr1.free n)
    rw [hini] at w
    rw [List.append_nil]
    have r2 : Paired (RepX X.K (upd (upd H1 dx (.own a)) a (.ins C dx [])) (su S1 a (.ins ci []))) (.d (.ref a) :: xs) (.ref a :: vs) := by
      refine .cons rfl (Paired.mapP r1 fun y v q => ?_)
      have q := RepX.keep h3 hr1 q
      cases y with
      | d y => exact q
      | vl ds => obtain ⟨b, us, e, z, z', q⟩ := q; exact ⟨b, us, e, z, by rw [su_ne (fun e => by subst e; rw [upd_same] at z; cases z)]; exact z', q⟩
      | bw ds => obtain ⟨b, us, e, z, z', q⟩ := q; exact ⟨b, us, e, z, by rw [su_ne (fun e => by subst e; rw [upd_same] at z; cases z)]; exact z', q⟩
      | vd ds => obtain ⟨b, us, e, z, z', q⟩ := q; exact ⟨b, us, e, z, by rw [su_ne (fun e => by subst e; rw [upd_same] at z; cases z)]; exact z', q⟩
      | bd ds => obtain ⟨b, us, e, z, z', q⟩ := q; exact ⟨b, us, e, z, by rw [su_ne (fun e => by subst e; rw [upd_same] at z; cases z)]; exact z', q⟩
      | fz ds =>
        obtain ⟨b, us, e, z, q⟩ := q
        refine ⟨b, us, e, ?_, q⟩
        rcases z with ⟨o, z, z'⟩ | z
        · exact .inl ⟨o, z, by rw [su_ne (fun e => by subst e; rw [upd_same] at z; cases z)]; exact z'⟩
        · exact .inr z
      | st ds => exact q.elim
    refine ⟨by have := hn _ _ _ w; simpa [Paired.length r1] using this, _, _, h1, r2, hc _ _ _ _ _ (fun z S3 ⟨ez, z', e, q⟩ => ?_) w⟩
    subst ez
    cases e
    intro v H' hr' k' r'
    cases r'.1
    refine ⟨rfl, KVof.of (k := h2) q _ _ hr' k' ⟨rfl, fun e => by cases e⟩⟩
theorem paired_snoc {α β : Type} {F : α → β → Prop} {a : α} {b : β} : ∀ {l₁ : List α} {l₂ : List β}, Paired F l₁ l₂ → F a b → Paired F (l₁ ++ [a]) (l₂ ++ [b])
  | _, _, .nil, h => .cons h .nil
  | _, _, .cons p r, h => .cons p (paired_snoc r h)
theorem snd_maken {ci : Nat} (hini : T.cini ci = f) (hC : cx.adr ci = C) (M : Mk X.K C fa) (F : FnOk X.prog X.w X.K X.mg X.base CX0 k fa fd ps (spOf X.K cx c f np)) (hn : NumOk c f np) (hr : Room (k + 1) X.A) (hg : Gl X x) (hm : X.mg x = some (.ref C)) {ds : List Value} (hb : Binds X.K fd ps ds) (hd : Vals [V.non] ds)
    (ha : PA X (e :: es) (liftA X.K cx (wpE T c as))) (hdb : (x == ("__debug__" : Str)) = false) (he : starEach (e :: es) X.env = (false, eval e X.env) :: starEach es X.env) (hpl : (backTo pos (starEach es X.env)).any (·.1) = false) :
    PE X (.Call (.Name x p) (e :: es) [] pos) (liftE X.K cx (wpE T c (.maken ci as))) :=
  peImp (pe_make M F hr hg hm hb hd (pass0 (X := X)) ha hdb he hpl) fun σ H Q ⟨S, σ2, hr, rs, w⟩ => stepA hc hr rs w fun xs S1 vs H1 hr1 k1 rs1 r1 w => fun a dx n nd ne => by
    obtain ⟨h1, h2, h3⟩ := rel_made hc (ci := ci) hr1 k1 n nd ne
    rw [hC] at h1 h2 h3
    have w := w a (hr1.free n)
    rw [hini] at w
    have r2 : Paired (RepX X.K (upd (upd H1 dx (.own a)) a (.ins C dx [])) (su S1 a (.ins ci []))) (.d (.ref a) :: (xs ++ [.d .non])) (.ref a :: (vs ++ [.non])) := by
      refine .cons rfl (paired_snoc hc (Paired.mapP r1 fun y v q => ?_) rfl)
      have q := RepX.keep h3 hr1 q
      cases y with
      | d y => exact q
      | vl ds => obtain ⟨b, us, e, z, z', q⟩ := q; exact ⟨b, us, e, z, by rw [su_ne (fun e => by subst e; rw [upd_same] at z; cases z)]; exact z', q⟩
      | bw ds => obtain ⟨b, us, e, z, z', q⟩ := q; exact ⟨b, us, e, z, by rw [su_ne (fun e => by subst e; rw [upd_same] at z; cases z)]; exact z', q⟩
      | vd ds => obtain ⟨b, us, e, z, z', q⟩ := q; exact ⟨b, us, e, z, by rw [su_ne (fun e => by subst e; rw [upd_same] at z; cases z)]; exact z', q⟩
      | bd ds => obtain ⟨b, us, e, z, z', q⟩ := q; exact ⟨b, us, e, z, by rw [su_ne (fun e => by subst e; rw [upd_same] at z; cases z)]; exact z', q⟩
      | fz ds =>
        obtain ⟨b, us, e, z, q⟩ := q
        refine ⟨b, us, e, ?_, q⟩
        rcases z with ⟨o, z, z'⟩ | z
        · exact .inl ⟨o, z, by rw [su_ne (fun e => by subst e; rw [upd_same] at z; cases z)]; exact z'⟩
        · exact .inr z
      | st ds => exact q.elim
    refine ⟨by have := hn _ _ _ w; simpa [Paired.length r1] using this, _, _, h1, r2, hc _ _ _ _ _ (fun z S3 ⟨ez, z', e, q⟩ => ?_) w⟩
    subst ez
    cases e
    intro v H' hr' k' r'
    cases r'.1
    refine ⟨rfl, KVof.of (k := h2) q _ _ hr' k' ⟨rfl, fun e => by cases e⟩⟩
end
end
theorem dic_of {K : Frag} {cx : Cls2} {H : Hp} {c : Cn} {kvs : List (D × D)} {v : V} (e : dicOf c = some kvs) (h : CnR K cx H c v) : ∃ a ks, v = .ref a ∧ Rd H a (.dK ks) ∧ DicR K H kvs ks := by
  cases c with
  | k kvs' => cases e; obtain ⟨a, ks, h1, h2, h3⟩ := h; exact ⟨a, ks, h1, .inl h2, h3⟩
  | kf kvs' => cases e; obtain ⟨a, ks, o, h1, h2, h3⟩ := h; exact ⟨a, ks, h1, .inr ⟨o, h2⟩, h3⟩
  | _ => cases e
section
variable {X : Cx} {T : Tbl} {c : Nat → List Vx → Hs → VK2 → Prop} {cx : Cls2} (hc : CalMono c)
include hc
theorem get_fin {K : Frag} {S S3 : Hs} {H H3 : Hp} {Q : VK} {kvs : List (D × D)} {ks : List (Key × V)} {ky dz : D} {zv : V} (hr3 : Rel K cx S3 H3) (k3 : Keep S S3 H H3) (hky : keyD ky = true) (rd : DicR K H3 kvs ks) (rz : RepV K H3 dz zv) (q : kE K cx S H Q [.d ((dget kvs ky).getD dz)] S3) :
    Q ((valV ks (keyK ky)).getD zv) H3 := by
  obtain ⟨x, e, q⟩ := q
  cases e
  obtain ⟨g1, g2⟩ := DicR.get hky rd
  cases hq : dget kvs ky with
  | none =>
    rw [hq] at q
    rw [g2 hq]
    exact fin_d (KVof.of k3 q) hr3 rz
  | some dv =>
    rw [hq] at q
    obtain ⟨v, h1, h2⟩ := g1 dv hq
    rw [h1]
    exact fin_d (KVof.of k3 q) hr3 h2
theorem snd_get1 {o k : R} {eo ek : Expr} {apos cpos : Pos} (hu : X.A.units + 1 < cLine) (ho : PE X eo (liftE X.K cx (wpE T c o))) (hk : PE X ek (liftE X.K cx (wpE T c k))) (m : M1 X eo "get" apos ek cpos) :
    PE X (.Call (.Attribute eo "get" apos) [ek] [] cpos) (liftE X.K cx (wpE T c (.get1 o k))) :=
  peImp (pe_dget1 hu ho hk m) fun σ H Q ⟨S, σ2, hr, rs, w⟩ => stepE hc hr rs w fun x S1 v H1 hr1 k1 rs1 r1 ⟨wv, w⟩ => by
    obtain ⟨cn, ⟨kvs, ek⟩, hcn⟩ := view_of hr1 r1.1 wv
    obtain ⟨a, ks, rfl, ha, _⟩ := dic_of ek hcn
    refine ⟨a, rfl, .inl ⟨ks, ha⟩, stepE hc hr1 rs1 w fun y S2 yv H2 hr2 k2 rs2 r2 w => ?_⟩
    obtain ⟨cn, ⟨kvs', ky, ek', rfl, hky, q⟩, hcn⟩ := view_of hr2 (r1.1.keep k2 hr1) w
    obtain ⟨a', ks', e, ha', rd⟩ := dic_of ek' hcn
    cases e
    have ey := key_rel hky r2.1
    subst ey
    exact ⟨valV ks' (keyK ky), .inl ⟨ks', keyK ky, ha', rfl, rfl⟩, get_fin hc hr2 (k1.trans k2) hky rd (dz := .non) rfl q⟩
theorem snd_get2 {o k d : R} {eo ek ed : Expr} {apos cpos : Pos} (hu : X.A.units + 1 < cLine) (ho : PE X eo (liftE X.K cx (wpE T c o))) (hk : PE X ek (liftE X.K cx (wpE T c k))) (hd : PE X ed (liftE X.K cx (wpE T c d))) (m : M2 X eo "get" apos ek ed cpos) :
    PE X (.Call (.Attribute eo "get" apos) [ek, ed] [] cpos) (liftE X.K cx (wpE T c (.get2 o k d))) :=
  peImp (pe_dget2 hu ho hk hd m) fun σ H Q ⟨S, σ2, hr, rs, w⟩ => stepE hc hr rs w fun x S1 v H1 hr1 k1 rs1 r1 ⟨wv, w⟩ => by
    obtain ⟨cn, ⟨kvs, ek⟩, hcn⟩ := view_of hr1 r1.1 wv
    obtain ⟨a, ks, rfl, ha, _⟩ := dic_of ek hcn
    refine ⟨a, rfl, .inl ⟨ks, ha⟩, stepE hc hr1 rs1 w fun y S2 yv H2 hr2 k2 rs2 r2 w => stepE hc hr2 rs2 w fun z S3 zv H3 hr3 k3 rs3 r3 w => ?_⟩
    obtain ⟨cn, ⟨kvs', ky, dz, ek', rfl, rfl, hky, q⟩, hcn⟩ := view_of hr3 ((r1.1.keep k2 hr1).keep k3 hr2) w
    obtain ⟨a', ks', e, ha', rd⟩ := dic_of ek' hcn
    cases e
    have ry := RepV.keep (k3.tups hr2) _ _ r2.1
    have ey := key_rel hky ry
    subst ey
    exact ⟨valV ks' (keyK ky), .inl ⟨ks', keyK ky, ha', rfl, rfl⟩, get_fin hc hr3 ((k1.trans k2).trans k3) hky rd r3.1 q⟩
noncomputable def PrR (K : Frag) (H : Hp) (S : Hs) : List Vx → List (V × V) → Prop
  | [], ps => ps = []
  | x :: y :: r, ps => ∃ u v q, ps = (u, v) :: q ∧ RepX K H S x u ∧ RepX K H S y v ∧ PrR K H S r q
  | _, _ => False
noncomputable def isPr : R → Bool
  | .nil => true
  | .pr _ _ r => isPr r
  | _ => false
noncomputable def prTrs (K : Frag) (cx : Cls2) (T : Tbl) (c : Nat → List Vx → Hs → VK2 → Prop) : R → List (TE × TE)
  | .pr k v r => (liftE K cx (wpE T c k), liftE K cx (wpE T c v)) :: prTrs K cx T c r
  | _ => []
theorem prs_ok {K : Frag} {σ2 : Sl} {σ : L2.St} : ∀ (r : R), isPr r = true → ∀ (S : Hs) (H : Hp) (P : LK2) (Q : List (V × V) → Hp → Prop), Rel K cx S H → RelX K S H σ2 σ → wpE T c r σ2 S P →
    (∀ xs S' ps H', Rel K cx S' H' → Keep S S' H H' → PrR K H' S' xs ps → P xs S' → Q ps H') → tPairs (prTrs K cx T c r) σ H Q
  | .nil, _, S, H, P, Q, hr, rs, w, q => q [] S [] H hr .refl rfl w
  | .pr k v r, h, S, H, P, Q, hr, rs, w, q => stepE hc hr rs w fun x S1 xv H1 hr1 k1 rs1 r1 w => stepE hc hr1 rs1 w fun y S2 yv H2 hr2 k2 rs2 r2 w => by
    obtain ⟨d, S3, w, hr3, k3, rd, _⟩ := rel_box hc hr2 k2 r2 w
    refine prs_ok r h S3 H2 _ _ hr3 (rs1.keep k3 hr1) w fun xs S' ps H' hr' k' pr p => q (x :: .d d :: xs) S' _ H' hr' ((k1.trans k3).trans k') ⟨xv, yv, ps, rfl, (r1.1.keep k3 hr1).keep k' hr3, RepV.keep (k'.tups hr3) _ _ rd, pr⟩ p
theorem prs_dic {K : Frag} {H : Hp} {S : Hs} : ∀ (n : Nat) (xs : List Vx) (ps : List (V × V)) (kvs : List (D × D)), xs.length ≤ n → PrR K H S xs ps → prsOf xs = some kvs → ∃ ks : List (Key × V), ps = ks.map (fun kv => (kV kv.1, kv.2)) ∧ DicR K H kvs ks
  | _, [], ps, kvs, _, pr, e => by
    cases e
    have pr : ps = [] := pr
    subst pr
    exact ⟨[], rfl, .nil⟩
  | _, [x], ps, kvs, _, pr, e => by cases pr
  | 0, x :: y :: r, ps, kvs, hl, pr, e => by simp at hl
  | n + 1, x :: y :: r, ps, kvs, hl, pr, e => by
    obtain ⟨u, v, q, rfl, ru, rv, pr⟩ := pr
    cases x with
    | d k =>
      cases y with
      | d z =>
        have e : (match keyD k, prsOf r with | true, some kvs => some ((k, z) :: kvs) | _, _ => none) = some kvs := e
        split at e
        · rename_i es hk he
          cases e
          obtain ⟨ks, rfl, rr⟩ := prs_dic n r q es (by simp at hl; omega) pr he
          have ek := key_rel hk ru
          subst ek
          exact ⟨(keyK k, v) :: ks, rfl, .cons ⟨keyR_mk hk, rv⟩ rr⟩
        · cases e
      | _ => cases e
    | _ => cases e
theorem mrg_rel {K : Frag} {H : Hp} : ∀ {more : List (D × D)} {ms : List (Key × V)} {kvs : List (D × D)} {ks : List (Key × V)}, (∀ p ∈ more, keyD p.1 = true) → DicR K H more ms → DicR K H kvs ks → DicR K H (mrgD kvs more) (mergeK ks ms)
  | [], _, kvs, ks, _, .nil, r => r
  | p :: more, b :: bs, kvs, ks, hk, .cons h t, r => by
    have e := (KeyR.of h.1).2
    show DicR K H (mrgD (dput kvs p.1 p.2) more) (mergeK (putK ks b.1 b.2) bs)
    refine mrg_rel (more := more) (fun q hq => hk q (List.mem_cons_of_mem _ hq)) t ?_
    rw [e]
    exact r.put (hk p List.mem_cons_self) h.2
theorem prs_key : ∀ (n : Nat) (xs : List Vx) (kvs : List (D × D)), xs.length ≤ n → prsOf xs = some kvs → ∀ p ∈ kvs, keyD p.1 = true
  | _, [], kvs, _, e => by cases e; simp
  | _, [x], kvs, _, e => by cases x <;> cases e
  | 0, x :: y :: r, kvs, hl, e => by simp at hl
  | n + 1, x :: y :: r, kvs, hl, e => by
    cases x with
    | d k =>
      cases y with
      | d z =>
        have e : (match keyD k, prsOf r with | true, some kvs => some ((k, z) :: kvs) | _, _ => none) = some kvs := e
        split at e
        · rename_i es hk he
          cases e
          intro p hp
          rcases List.mem_cons.mp hp with rfl | hp
          · exact hk
          · exact prs_key n r es (by simp at hl; omega) he p hp
        · cases e
      | _ => cases e
    | _ => cases e
theorem snd_dctp {ps : R} {keys : List (Option Expr)} {values : List Expr} {pos : Pos} (hp : isPr ps = true) (h : PPs X pos keys values (prTrs X.K cx T c ps)) (hall : keys.all (·.isSome) = true) (hl : keys.length = values.length) (h0 : keys ≠ []) (h15 : keys.length ≤ 15) :
    PE X (.Dict keys values pos) (liftE X.K cx (wpE T c (.dctp ps))) :=
  peImp (pe_disp h hall hl h0 h15) fun σ H Q ⟨S, σ2, hr, rs, w⟩ => fun p n => by
    have k0 : Keep S S H (upd H p (.dK [])) := Keep.new n
    have hr0 : Rel X.K cx S (upd H p (.dK [])) := hr.upd0 (hr.free n) (tupS_new n)
    refine prs_ok hc ps hp S _ _ _ hr0 (rs.keep k0 hr) w fun xs S1 vs H1 hr1 k1 pr ⟨kvs, e, hz, q⟩ => ?_
    obtain ⟨hp1, sp1⟩ := k1.kp p _ upd_same (hr.free n)
    obtain ⟨ks, rfl, rd⟩ := prs_dic hc _ xs vs kvs (Nat.le_refl _) pr e
    obtain ⟨x, ex, q⟩ := q
    cases ex
    have t : TupS X.K H1 (upd H1 p (.dK (mergeK [] ks))) := tupS_upd fun o e => by rw [hp1] at e; cases e; rfl
    refine ⟨hp1, ks, rfl, by rw [← DicR.length rd]; exact hz, q _ _ (hr1.upd0 sp1 t) ⟨fun b o e' nb => ?_, fun b e' => ?_⟩ ⟨⟨p, _, rfl, upd_same, sp1, (mrg_rel hc (prs_key hc _ xs kvs (Nat.le_refl _) e) rd .nil).keep t⟩, fun _ => ⟨p, rfl, n⟩⟩⟩
    · have ne : b ≠ p := fun z => by subst z; rw [n] at e'; cases e'
      obtain ⟨g1, g2⟩ := (k0.trans k1).kp b o e' nb
      exact ⟨by rw [upd_ne ne]; exact g1, g2⟩
    · by_cases ne : b = p
      · subst ne; exact n
      · rw [upd_ne ne] at e'
        exact (k0.trans k1).up b e'
end
section
variable {X : Cx} {cx : Cls2}
theorem pairs_refs0 {K : Frag} {H : Hp} {ps : List (Int × Int)} {vs : List V} (h : Paired (fun (p : Int × Int) (v : V) => ∃ t, v = .ref t ∧ SqT K H t [.int p.1, .int p.2]) ps vs) :
    ∃ as : List Addr, vs = as.map V.ref ∧ Paired (fun (t : Addr) (kv : Key × V) => SqT K H t [kV kv.1, kv.2]) as (ps.map fun p => ((.inl p.1 : Key), V.int p.2)) := by
  induction h with
  | nil => exact ⟨[], rfl, .nil⟩
  | cons h _ ih =>
    obtain ⟨t, rfl, q⟩ := h
    obtain ⟨as, rfl, q'⟩ := ih
    exact ⟨t :: as, rfl, .cons q q'⟩
theorem dic_prs0 {K : Frag} {H : Hp} : ∀ ps : List (Int × Int), DicR K H (ps.map fun p => (D.int p.1, D.int p.2)) (ps.map fun p => ((.inl p.1 : Key), V.int p.2))
  | [] => .nil
  | _ :: ps => .cons ⟨rfl, rfl⟩ (dic_prs0 ps)
theorem mrg_rel0 {K : Frag} {H : Hp} : ∀ {more : List (D × D)} {ms : List (Key × V)} {kvs : List (D × D)} {ks : List (Key × V)}, (∀ p ∈ more, keyD p.1 = true) → DicR K H more ms → DicR K H kvs ks → DicR K H (mrgD kvs more) (mergeK ks ms)
  | [], _, kvs, ks, _, .nil, r => r
  | p :: more, b :: bs, kvs, ks, hk, .cons h t, r => by
    have e := (KeyR.of h.1).2
    show DicR K H (mrgD (dput kvs p.1 p.2) more) (mergeK (putK ks b.1 b.2) bs)
    refine mrg_rel0 (more := more) (fun q hq => hk q (List.mem_cons_of_mem _ hq)) t ?_
    rw [e]
    exact r.put (hk p List.mem_cons_self) h.2
theorem call1_dictP (hcalm : X.calm = true) : CallR X (.type "dict") (c1of X.K cx .dictP) := by
  intro pins s σ H xs us Q I r w
  obtain ⟨v, rfl, S, a, hr, ra, w⟩ := w
  obtain ⟨c, w, hc⟩ := view_of hr ra w
  obtain ⟨ps, rfl, w⟩ := w
  obtain ⟨p, vs, rfl, hp, r1⟩ := hc
  obtain ⟨as, rfl, pa⟩ := pairs_refs0 (reps_pairs r1)
  have hk : ∀ q ∈ (ps.map fun p => (D.int p.1, D.int p.2)), keyD q.1 = true := fun q hq => by
    obtain ⟨z, _, rfl⟩ := List.mem_map.mp hq; rfl
  exact call_dictP hcalm pins s σ H _ us Q I r ⟨p, as, ps.map fun p => ((.inl p.1 : Key), V.int p.2), rfl, SqL.of hp, pa, fun q hq =>
    w _ _ (hr.upd0 (hr.free hq) (tupS_new hq)) (.new hq) ⟨⟨q, _, rfl, upd_same, hr.free hq, (mrg_rel0 hk (dic_prs0 ps) .nil).keep (tupS_new hq)⟩, fun _ => ⟨q, rfl, hq⟩⟩⟩
end
theorem mout_rel {K : Frag} {cx : Cls2} {S : Hs} {H H' : Hp} {a : Addr} {c' : Cn} {o' ob : O} (hr : Rel K cx S H) (e : S a = some ob) (m : MOut K cx H a c' H') (ho : c'.o = some o') : Rel K cx (su S a o') H' ∧ Keep S (su S a o') H H' := by
  obtain ⟨h', rfl, hc, hs⟩ := m
  refine ⟨hr.upd1 (tupS_upd hs) ?_, ⟨fun b o z n => ?_, fun b z => ?_⟩⟩
  · cases c' with
    | l ds => cases ho; obtain ⟨p, vs, e, h, r⟩ := hc; cases e; exact ⟨vs, h, r⟩
    | k ds => cases ho; obtain ⟨p, vs, e, h, r⟩ := hc; cases e; exact ⟨vs, h, r⟩
    | kn ds => cases ho; obtain ⟨p, vs, e, h, r⟩ := hc; cases e; exact ⟨vs, h, r⟩
    | _ => cases ho
  · have ne : b ≠ a := fun z => by subst z; rw [e] at n; cases n
    exact ⟨by rw [upd_ne ne]; exact z, by rw [su_ne ne]; exact n⟩
  · by_cases ne : b = a
    · subst ne; rw [upd_same] at z; cases z
    · rw [upd_ne ne] at z; exact z
section
variable {X : Cx} {T : Tbl} {c : Nat → List Vx → Hs → VK2 → Prop} {cx : Cls2} (hc : CalMono c)
include hc
theorem snd_hm {m : M} {o as : R} {eo e : Expr} {es : List Expr} (hp : ∀ to t, PE X eo to → PA X es t → PE X e (tBM X.K "list" (mOf X.K cx m) to t)) (ho : PE X eo (liftE X.K cx (wpE T c o))) (ha : PA X es (liftA X.K cx (wpE T c as))) :
    PE X e (liftE X.K cx (wpE T c (.hm m o as))) :=
  peImp (hp _ _ ho ha) fun σ H Q ⟨S, σ2, hr, rs, w⟩ => stepE hc hr rs w fun x S0 v H1 hr0 k0 rs0 r0 w => by
    obtain ⟨dd, S1, ⟨a, ds, ex, ed, w⟩, hr1, k1, r1, _⟩ := rel_box hc hr0 k0 r0 w
    subst ex
    cases r1
    have rs1 := rs.keep k1 hr
    obtain ⟨vs0, h0, _⟩ := hr1 a _ ed
    refine ⟨.inl ⟨rfl, _, SqL.of h0⟩, stepA hc hr1 rs1 w fun xs S2 vs H2 hr2 k2 rs2 r2 ⟨ob, e2, w⟩ => ?_⟩
    have z := hr2 a ob e2
    have hcn : CnR X.K cx H2 ob.cn (.ref a) := by
      cases ob with
      | lst ds => obtain ⟨us, h, r⟩ := z; exact ⟨a, us, rfl, h, r⟩
      | dic ds => obtain ⟨us, h, r⟩ := z; exact ⟨a, us, rfl, h, r⟩
      | fdc ds y => obtain ⟨h, o, ks, e1, r⟩ := z; subst e1; exact ⟨a, ks, o, rfl, h, r⟩
      | dn ds => obtain ⟨us, h, r⟩ := z; exact ⟨a, us, rfl, h, r⟩
      | fdn ds y ks => obtain ⟨h, o, e1, r⟩ := z; subst e1; exact ⟨a, ks, o, rfl, h, r⟩
      | ins ci fs => exact ⟨a, rfl, z⟩
    refine ⟨S2, ob.cn, a, xs, hr2, rfl, hcn, r2, mutC_mono (fun c' r ⟨o', ho', x, e, q⟩ H' v' mo rv => ?_) w⟩
    cases e
    obtain ⟨h1, h2⟩ := mout_rel hr2 e2 mo ho'
    exact KVof.of (k1.trans k2) q _ _ h1 h2 ⟨rv, fun e => by cases e⟩
omit hc in
theorem DicR.drop {K : Frag} {H : Hp} {x : D} (hx : keyD x = true) : ∀ {kvs : List (D × D)} {ks : List (Key × V)}, DicR K H kvs ks → DicR K H (ddrop kvs x) (dropK ks (keyK x))
  | _, _, .nil => .nil
  | (k, y) :: r, (k', v) :: r', .cons h t => by
    have ih := DicR.drop hx t
    obtain ⟨hk, hv⟩ := h
    obtain ⟨h1, h2⟩ := KeyR.of hk
    have e : eqB k x = decide (keyK k = keyK x) := eqB_key h1 hx
    have h2 : k' = keyK k := h2
    unfold ddrop dropK at ih ⊢
    rw [List.filter_cons, List.filter_cons]
    by_cases q : keyK k = keyK x
    · rw [if_neg (by show ¬ (!eqB k x) = true; rw [e, decide_eq_true q]; decide), if_neg (by show ¬ decide (k' ≠ keyK x) = true; rw [decide_eq_true_eq]; exact fun z => z (h2.trans q))]
      exact ih
    · rw [if_pos (by show (!eqB k x) = true; rw [e, decide_eq_false q]; rfl), if_pos (by show decide (k' ≠ keyK x) = true; rw [decide_eq_true_eq]; exact fun z => q (h2.symm.trans z))]
      exact .cons ⟨hk, hv⟩ ih
theorem snd_dpop {o k : R} {eo ek : Expr} {apos cpos : Pos} (ho : PE X eo (liftE X.K cx (wpE T c o))) (hk : PE X ek (liftE X.K cx (wpE T c k))) (m : M1 X eo "pop" apos ek cpos) :
    PE X (.Call (.Attribute eo "pop" apos) [ek] [] cpos) (liftE X.K cx (wpE T c (.dpop o k))) :=
  peImp (pe_dpop1 ho hk m) fun σ H Q ⟨S, σ2, hr, rs, w⟩ => stepE hc hr rs w fun x S1 v H1 hr1 k1 rs1 r1 ⟨a, kvs0, ex, ea, w⟩ => by
    subst ex
    cases r1.1
    obtain ⟨ks0, h0, _⟩ := hr1 a _ ea
    refine ⟨a, rfl, .inl ⟨ks0, .inl h0⟩, stepE hc hr1 rs1 w fun y S2 yv H2 hr2 k2 rs2 r2 ⟨kvs, ky, dv, ey, hky, e2, hg, q⟩ => ?_⟩
    subst ey
    obtain ⟨ks, h2, rd⟩ := hr2 a _ e2
    have ey := key_rel hky r2.1
    subst ey
    obtain ⟨vv, hv, rv⟩ := (DicR.get hky rd).1 dv hg
    refine ⟨ks, keyK ky, vv, h2, rfl, hv, ?_⟩
    have mo : MOut X.K cx H2 a (.k (ddrop kvs ky)) (upd H2 a (.dK (dropK ks (keyK ky)))) := mout_k h2 (DicR.drop hky rd)
    obtain ⟨h3, h4⟩ := mout_rel hr2 e2 mo rfl
    obtain ⟨x, e, q⟩ := q
    cases e
    exact KVof.of (k1.trans k2) q _ _ h3 h4 ⟨RepV.keep (dic_tups h2) _ _ rv, fun e => by cases e⟩
theorem snd_hm0 {m : M} {o : R} {eo e : Expr} (hp : ∀ to, PE X eo to → PE X e (tBM0 X.K "list" (mOf X.K cx m) to)) (ho : PE X eo (liftE X.K cx (wpE T c o))) :
    PE X e (liftE X.K cx (wpE T c (.hm m o .nil))) :=
  peImp (hp _ ho) fun σ H Q ⟨S, σ2, hr, rs, w⟩ => stepE hc hr rs w fun x S0 v H1 hr0 k0 rs0 r9 w => by
    obtain ⟨dd, S1, ⟨a, ds, ex, ed, w⟩, hr1, k1, r1, _⟩ := rel_box hc hr0 k0 r9 w
    subst ex
    cases r1
    obtain ⟨vs0, h0, r0⟩ := hr1 a _ ed
    obtain ⟨ob, e2, w⟩ := w
    rw [ed] at e2; cases e2
    refine ⟨.inl ⟨rfl, _, SqL.of h0⟩, S1, .l ds, a, [], hr1, rfl, ⟨a, vs0, rfl, h0, r0⟩, .nil, mutC_mono (fun c' r ⟨o', ho', x, e, q⟩ H' v' mo rv => ?_) w⟩
    cases e
    obtain ⟨h1, h2⟩ := mout_rel hr1 ed mo ho'
    exact KVof.of k1 q _ _ h1 h2 ⟨rv, fun e => by cases e⟩
end
noncomputable def OwnA (σ2 : Sl) (σ : L2.St) (b : Addr) : Prop := ∃ (i : Nat) (x : Vx), σ2[i]? = some (some x) ∧ own x = true ∧ σ[i]? = some (some (.ref b))
noncomputable def lentB : Vx → Bool
  | .vl _ => true
  | .bw _ => true
  | _ => false
noncomputable def srcA : R → Sl → L2.St → Addr → Prop
  | .itv i, σ2, σ, b => ∃ x : Vx, σ2[i]? = some (some x) ∧ lentB x = true ∧ σ[i]? = some (some (.ref b))
  | .enu a, σ2, σ, b => srcA a σ2 σ b
  | .zip a a', σ2, σ, b => srcA a σ2 σ b ∨ srcA a' σ2 σ b
  | _, _, _, _ => False
section
variable (K : Frag) (cx : Cls2)
noncomputable def Later (S1 : Hs) (H1 : Hp) (ok : Sl → Hs → Prop) (G : Hs → Hp → Prop) (P : Addr → Prop) : Prop :=
  ∀ Pz : Addr → Prop, (∀ b, S1 b = none → H1 b ≠ none → P b → Pz b) → ∀ S H σ2, Rel K cx S H → (∀ b, Pz b → S b = none ∧ H b = H1 b) → ok σ2 S → G S H
noncomputable def ItG (J : It) (items : List D) (S : Hs) (H : Hp) : Prop := ∀ i : Nat, (∀ d, items[i]? = some d → J.go i H ∧ ∀ x H', J.yld i H x H' → Rel K cx S H' ∧ Keep S S H H' ∧ RepV K H' d x) ∧ (items.length = i → J.stop i H)
noncomputable def liftI (it : R) (w : WI) : TI := fun σ H R => ∃ S σ2, Rel K cx S H ∧ RelX K S H σ2 σ ∧ w σ2 S fun J2 S1 => ∀ J H1, Rel K cx S1 H1 → Keep S S1 H H1 → Later K cx S1 H1 J2.ok (ItG K cx J J2.items) (fun b => OwnA σ2 σ b → srcA it σ2 σ b) → R J H1
noncomputable def SrcL (S1 : Hs) (H1 : Hp) (J2 : It2) (P : Addr → Prop) (a : Addr) : Prop := J2.tu = false ∧ (∃ vs, SqL K H1 a vs) ∧ Later K cx S1 H1 J2.ok (fun _ H => ∃ vs, SqL K H a vs ∧ RepL K H J2.items vs) P
noncomputable def SrcT (S1 : Hs) (H1 : Hp) (J2 : It2) (P : Addr → Prop) (a : Addr) : Prop := J2.tu = true ∧ (∃ vs, SqT K H1 a vs) ∧ Later K cx S1 H1 J2.ok (fun _ H => ∃ vs, SqT K H a vs ∧ RepL K H J2.items vs) P
noncomputable def liftSrc (it : R) (w : WI) : TE := fun σ H Q => ∃ S σ2, Rel K cx S H ∧ RelX K S H σ2 σ ∧ w σ2 S fun J2 S1 => ∀ a H1, Rel K cx S1 H1 → Keep S S1 H H1 →
  (SrcL K cx S1 H1 J2 (fun b => OwnA σ2 σ b → srcA it σ2 σ b) a ∨ SrcT K cx S1 H1 J2 (fun b => OwnA σ2 σ b → srcA it σ2 σ b) a) → Q (.ref a) H1
end
section
variable {K : Frag} {cx : Cls2} {S S1 : Hs} {H H1 : Hp} {σ2 : Sl} {σ : L2.St}
theorem ownA_not (rs : RelX K S H σ2 σ) {b : Addr} (h : OwnA σ2 σ b) : ∃ o, H b = some o ∧ seqish o = false := by
  obtain ⟨i, x, e, ho, e2⟩ := h
  obtain ⟨v, e3, r⟩ := rs.2 i x e
  rw [e2] at e3; cases e3
  cases x with
  | vl ds => obtain ⟨a, vs, e, h, _⟩ := r; cases e; exact ⟨_, h, rfl⟩
  | vd ds => obtain ⟨a, vs, e, h, _⟩ := r; cases e; exact ⟨_, h, rfl⟩
  | _ => cases ho
theorem later_tup (hr1 : Rel K cx S1 H1) (rs1 : RelX K S1 H1 σ2 σ) {P Pz : Addr → Prop} (hP : ∀ b, ¬ OwnA σ2 σ b → P b) (hz : ∀ b, S1 b = none → H1 b ≠ none → P b → Pz b) {H' : Hp} {S' : Hs} (k : ∀ b, Pz b → S' b = none ∧ H' b = H1 b) : TupS K H1 H' := by
  have key : ∀ t o, H1 t = some o → seqish o = true → H' t = some o := fun t o e q => by
    refine ((k t (hz t ?_ (by rw [e]; simp) (hP t fun z => ?_))).2).trans e
    · cases z : S1 t with
      | none => rfl
      | some u =>
        obtain ⟨h, h1, h2⟩ := (hr1 t u z).some
        rw [e] at h1; cases h1
        rw [q] at h2; cases h2
    · obtain ⟨o', h1, h2⟩ := ownA_not rs1 z
      rw [e] at h1; cases h1
      rw [q] at h2; cases h2
  refine ⟨fun t vs hs => ?_, fun t vs ⟨o, hs, hd⟩ => ⟨o, key _ _ hs rfl, hd⟩⟩
  rcases hs with (hs | ⟨o, hs⟩) | hs
  · exact .inl (.inl (key _ _ hs rfl))
  · exact .inl (.inr ⟨o, key _ _ hs rfl⟩)
  · exact .inr hs
theorem src_of {it : R} {l : Bool} {x : Vx} {v : V} {Q : V → Hp → Prop} {H0 : Hp} {S0 : Hs} (rs0 : RelX K S0 H0 σ2 σ) (hr1 : Rel K cx S1 H1) (k1 : Keep S0 S1 H0 H1) (rs1 : RelX K S1 H1 σ2 σ) (r1 : RepX K H1 S1 x v)
    (hown : ∀ a, v = .ref a → lentB x = true → OwnA σ2 σ a → srcA it σ2 σ a)
    (w : srcX l x S1 fun J2 S2 => ∀ a H2, Rel K cx S2 H2 → Keep S0 S2 H0 H2 → (SrcL K cx S2 H2 J2 (fun b => OwnA σ2 σ b → srcA it σ2 σ b) a ∨ SrcT K cx S2 H2 J2 (fun b => OwnA σ2 σ b → srcA it σ2 σ b) a) → Q (.ref a) H2) : Q v H1 := by
  have hP : ∀ b, ¬ OwnA σ2 σ b → (OwnA σ2 σ b → srcA it σ2 σ b) := fun b h z => (h z).elim
  have lst : ∀ {a : Addr} {vs : List V} {ds : List D}, H1 a = some (.lst vs) → S1 a = none → RepL K H1 ds vs → (OwnA σ2 σ a → srcA it σ2 σ a) → SrcL K cx S1 H1 ⟨ds, fun _ _ => True, false⟩ (fun b => OwnA σ2 σ b → srcA it σ2 σ b) a :=
    fun {a vs ds} h n r p => ⟨rfl, ⟨vs, SqL.of h⟩, fun Pz hz S H σ' hr k _ => ⟨vs, SqL.of ((k a (hz a n (by rw [h]; simp) p)).2.trans h), r.keep (later_tup hr1 rs1 hP hz k)⟩⟩
  unfold srcX at w
  split at w
  · obtain ⟨t, vs, rfl, h, r⟩ := r1
    exact w t H1 hr1 k1 (.inr ⟨rfl, ⟨vs, h⟩, fun Pz hz S H σ' hr k _ => ⟨vs, (later_tup hr1 rs1 hP hz k).1 _ _ h, r.keep (later_tup hr1 rs1 hP hz k)⟩⟩)
  · obtain ⟨t, vs, rfl, h, r⟩ := r1
    exact w t H1 hr1 k1 (.inr ⟨rfl, ⟨vs, h.t⟩, fun Pz hz S H σ' hr k _ => ⟨vs, (later_tup hr1 rs1 hP hz k).1 _ _ h.t, r.keep (later_tup hr1 rs1 hP hz k)⟩⟩)
  · cases r1
    obtain ⟨ds, e, w⟩ := w
    obtain ⟨vs, h, _⟩ := hr1 _ _ e
    exact w _ H1 hr1 k1 (.inl ⟨rfl, ⟨vs, SqL.of h⟩, fun Pz hz S H σ' hr k ok => by obtain ⟨vs', h', r'⟩ := hr _ _ ok; exact ⟨vs', SqL.of h', r'⟩⟩)
  · obtain ⟨a, vs, rfl, h, n, r⟩ := r1
    exact w a H1 hr1 k1 (.inl (lst h n r (hown a rfl rfl)))
  · obtain ⟨a, vs, rfl, h, n, r⟩ := r1
    exact w a H1 hr1 k1 (.inl (lst h n r (hown a rfl rfl)))
  · obtain ⟨a, vs, rfl, h, r⟩ := r1
    refine w a H1 hr1 k1 (.inl ⟨rfl, ⟨vs, fz_sql h⟩, fun Pz hz S H σ' hr k _ => ⟨vs, ?_, r.keep (later_tup hr1 rs1 hP hz k)⟩⟩)
    rcases h with ⟨o, h, n⟩ | h
    · refine .inl (.inr ⟨o, (k a (hz a n (by rw [h]; simp) fun z => ?_)).2.trans h⟩)
      obtain ⟨o', h1, h2⟩ := ownA_not rs1 z
      rw [h] at h1; cases h1
      cases h2
    · exact sqL_none h
  · exact w.elim
end
section
variable {X : Cx} {T : Tbl} {c : Nat → List Vx → Hs → VK2 → Prop} {cx : Cls2} (hc : CalMono c)
include hc
theorem src_v {i : Nat} {x : Str} {pos : Pos} (hN : X.N[i]? = some x) (hv : Vis X.env.scope x) (h1 : (x == ("__debug__" : Str)) = false) (h2 : (x == ("__classdict__" : Str)) = false) : PE X (.Name x pos) (liftSrc X.K cx (.itv i) (wpI T c (.itv i))) :=
  peImp (pe_var hN hv h1 h2) fun σ H Q ⟨S, σ2, hr, rs, x, e, w⟩ => by
    obtain ⟨v, h1, h2⟩ := rs.2 i x e
    exact ⟨v, h1, src_of (it := .itv i) rs hr .refl rs h2 (fun a ea hl _ => ⟨x, e, hl, by rw [h1, ea]⟩) w⟩
theorem src_e {a : R} {ea : Expr} (ha : PE X ea (liftE X.K cx (wpE T c a))) : PE X ea (liftSrc X.K cx (.ite a) (wpI T c (.ite a))) :=
  peImp ha fun σ H Q ⟨S, σ2, hr, rs, w⟩ => stepE hc hr rs w fun x S1 v H1 hr1 k1 rs1 r1 w => by
    refine src_of rs hr1 k1 rs1 r1.1 (fun a ea hl ho => ?_) w
    cases x with
    | vl ds =>
      obtain ⟨a', e, n⟩ := r1.2 rfl
      rw [ea] at e; cases e
      obtain ⟨o, h1, _⟩ := ownA_not rs ho
      rw [n] at h1; cases h1
    | bw ds => exact w.elim
    | _ => cases hl
noncomputable def iAny (K : Frag) (tl : TE) : TI := fun σ H R => tl σ H fun x H1 => ∃ a, x = .ref a ∧ (((∃ xs, SqL K H1 a xs) ∧ R (Itl K a) H1) ∨ ((∃ xs, SqT K H1 a xs) ∧ R (Itt K a) H1))
omit hc in
theorem pi_any {tg l : Expr} {tl : TE} (hl : PE X l tl) : PI X tg l (iAny X.K tl) := by
  refine ⟨fun pins s σ H R I h => ?_⟩
  refine thn (hl.run pins s σ H _ I h) fun v s1 ⟨x, H1, I1, r1, q1⟩ => ?_
  obtain ⟨a, e, q⟩ := q1
  subst e
  cases r1
  rcases q with ⟨⟨xs, hq⟩, q⟩ | ⟨⟨xs, hq⟩, q⟩
  · obtain ⟨its, rv, p, hz⟩ := I1.list hq
    refine wpAny_pyIter_list p.isList ?_
    refine ⟨s1.heap.objs.size, [s1.heap.objs.size], _, _, H1, rfl, I1.kept (t' := s1.toks) fun b o e => Heap.get?_push_of_some _ e, turn_list a _, ⟨_, Heap.get?_push_size _ rfl, rfl, rfl⟩, fun b hb => ?_, q⟩
    have e : b = s1.heap.objs.size := by simpa using hb
    subst e
    exact I1.fpOk (Nat.le_refl _) (I1.hok.fresh (Nat.le_refl _))
  · obtain ⟨its, rv, p, hz⟩ := I1.tuple hq
    refine wpAny_pyIter_tuple (show s1.heap.IsTuple a its.toArray from p) ?_
    refine ⟨s1.heap.objs.size, [s1.heap.objs.size], _, _, H1, rfl, I1.kept (t' := s1.toks) fun b o e => Heap.get?_push_of_some _ e, turn_tuple a _, ⟨_, Heap.get?_push_size _ rfl, rfl, rfl⟩, fun b hb => ?_, q⟩
    have e : b = s1.heap.objs.size := by simpa using hb
    subst e
    exact I1.fpOk (Nat.le_refl _) (I1.hok.fresh (Nat.le_refl _))
theorem piImp {tg e : Expr} {t t' : TI} (h : PI X tg e t) (i : ∀ σ H R, t' σ H R → t σ H R) : PI X tg e t' := ⟨fun pins s σ H R I w => h.run pins s σ H R I (i _ _ _ w)⟩
theorem walk_src {it : R} {tg e : Expr} (h : PE X e (liftSrc X.K cx it (wpI T c it))) : PI X tg e (liftI X.K cx it (wpI T c it)) :=
  piImp hc (pi_any h) fun σ H R ⟨S, σ2, hr, rs, w⟩ => ⟨S, σ2, hr, rs, wpI_mono hc w fun J2 S1 q a H1 hr1 k1 src => ⟨a, rfl, by
    rcases src with ⟨_, ⟨vs, h⟩, lt⟩ | ⟨_, ⟨vs, h⟩, lt⟩
    · refine .inl ⟨⟨vs, h⟩, q (Itl X.K a) H1 hr1 k1 fun Pz hz S H σ' hr k ok i => ?_⟩
      obtain ⟨us, h1, h2⟩ := lt Pz hz S H σ' hr k ok
      refine ⟨fun d e => ?_, fun e => ⟨us, h1, by rw [← h2.length]; exact Nat.le_of_eq e⟩⟩
      obtain ⟨v, h3, h4⟩ := h2.get e
      refine ⟨⟨us, v, h1, h3⟩, fun x H' y => ?_⟩
      obtain ⟨e1, e2⟩ := y
      subst e1
      have := e2 us h1
      rw [h3] at this; cases this
      exact ⟨hr, .refl, h4⟩
    · refine .inr ⟨⟨vs, h⟩, q (Itt X.K a) H1 hr1 k1 fun Pz hz S H σ' hr k ok i => ?_⟩
      obtain ⟨us, h1, h2⟩ := lt Pz hz S H σ' hr k ok
      refine ⟨fun d e => ?_, fun e => ⟨us, h1, by rw [← h2.length]; exact Nat.le_of_eq e⟩⟩
      obtain ⟨v, h3, h4⟩ := h2.get e
      refine ⟨⟨us, v, h1, h3⟩, fun x H' y => ?_⟩
      obtain ⟨e1, e2⟩ := y
      subst e1
      have := e2 us h1
      rw [h3] at this; cases this
      exact ⟨hr, .refl, h4⟩⟩⟩
theorem rngD_get : ∀ (n : Nat) (lo : Int) (i : Nat) (d : D), (rngD lo n)[i]? = some d → i < n ∧ d = .int (lo + i)
  | 0, _, _, _, e => by simp [rngD] at e
  | n + 1, lo, 0, d, e => by simp [rngD] at e; subst e; exact ⟨Nat.succ_pos _, by simp⟩
  | n + 1, lo, i + 1, d, e => by
    obtain ⟨h1, h2⟩ := rngD_get n (lo + 1) i d (by simpa [rngD] using e)
    exact ⟨by omega, by rw [h2]; congr 1; push_cast; omega⟩
theorem rngD_length : ∀ (n : Nat) (lo : Int), (rngD lo n).length = n
  | 0, _ => rfl
  | n + 1, lo => by simp [rngD, rngD_length n]
theorem itr_later {K : Frag} {S1 : Hs} {H1 : Hp} {lo : Int} {n : Nat} {P : Addr → Prop} : Later K cx S1 H1 (fun _ _ => True) (ItG K cx (Itr lo n) (rngD lo n)) P := fun Pz hz S H σ' hr k _ i =>
  ⟨fun d e => by
    obtain ⟨h1, rfl⟩ := rngD_get hc n lo i d e
    refine ⟨h1, fun x H' y => ?_⟩
    obtain ⟨e1, e2⟩ := y
    subst e1 e2
    exact ⟨hr, .refl, rfl⟩, fun e => by rw [rngD_length hc] at e; exact Nat.le_of_eq e⟩
theorem walk_rng {a : R} {ea tg : Expr} {p pos : Pos} (hg : Gl X "range") (hm : X.mg "range" = none) (hs : starEach [ea] X.env = [(false, eval ea X.env)]) (ha : PE X ea (liftE X.K cx (wpE T c a))) :
    PI X tg (.Call (.Name "range" p) [ea] [] pos) (liftI X.K cx (.rng a) (wpI T c (.rng a))) :=
  piImp hc (pi_range1 hg hm (pa_cons ha pa_nil hs) hs) fun σ H R ⟨S, σ2, hr, rs, w⟩ => stepE hc hr rs w fun x S1 v H1 hr1 k1 rs1 r1 ⟨n, ex, h1, h2, w⟩ => by
    subst ex
    cases r1.1
    exact ⟨n, rfl, by omega, h1, w _ H1 hr1 k1 (itr_later hc)⟩
theorem its_later {K : Frag} {S1 : Hs} {H1 : Hp} {s : List Nat} {P : Addr → Prop} : Later K cx S1 H1 (fun _ _ => True) (ItG K cx (Its (sv s)) (s.map fun c => D.str [c])) P := fun Pz hz S H σ' hr k _ i =>
  ⟨fun d e => by
    rw [List.getElem?_map] at e
    obtain ⟨m, e1, rfl⟩ := Option.map_eq_some_iff.mp e
    obtain ⟨h1, h2⟩ := List.getElem?_eq_some_iff.mp e1
    refine ⟨by show i < s.toArray.size; rw [List.size_toArray]; exact h1, fun x H' y => ?_⟩
    obtain ⟨e3, ch, e4, e5⟩ := y
    subst e3 e5
    have e4 : s.toArray[i]? = some ch := e4
    rw [List.getElem?_toArray, e1] at e4
    cases e4
    exact ⟨hr, .refl, rfl⟩, fun e => by
    rw [List.length_map] at e
    show s.toArray.size ≤ i
    rw [List.size_toArray]; exact Nat.le_of_eq e⟩
theorem walk_ichs {a : R} {e tg : Expr} (ha : PE X e (liftE X.K cx (wpE T c a))) : PI X tg e (liftI X.K cx (.ichs a) (wpI T c (.ichs a))) :=
  piImp hc (pi_str ha) fun σ H R ⟨S, σ2, hr, rs, w⟩ => stepE hc hr rs w fun x S1 v H1 hr1 k1 rs1 r1 ⟨s, ex, w⟩ => by
    subst ex
    cases r1.1
    exact ⟨_, rfl, w _ H1 hr1 k1 (its_later hc)⟩
theorem walk_rng2 {a b : R} {ea eb tg : Expr} {p pos : Pos} (hg : Gl X "range") (hm : X.mg "range" = none) (hs : starEach [ea, eb] X.env = [(false, eval ea X.env), (false, eval eb X.env)]) (hs2 : starEach [eb] X.env = [(false, eval eb X.env)])
    (ha : PE X ea (liftE X.K cx (wpE T c a))) (hb : PE X eb (liftE X.K cx (wpE T c b))) :
    PI X tg (.Call (.Name "range" p) [ea, eb] [] pos) (liftI X.K cx (.rng2 a b) (wpI T c (.rng2 a b))) :=
  piImp hc (pi_range2 hg hm (pa_cons ha (pa_cons hb pa_nil hs2) (by rw [hs, hs2])) hs hs2) fun σ H R ⟨S, σ2, hr, rs, w⟩ => stepE hc hr rs w fun x S1 v H1 hr1 k1 rs1 r1 w => stepE hc hr1 rs1 w fun y S2 u H2 hr2 k2 rs2 r2 ⟨m, n, ex, ey, h, w'⟩ => by
    subst ex ey
    cases r1.1
    cases r2.1
    exact ⟨m, n, rfl, ⟨by omega, h.1, by omega, h.2.2.1⟩, w' _ H2 hr2 (k1.trans k2) (itr_later hc)⟩
theorem itc_later {K : Frag} {S1 : Hs} {H1 : Hp} {lo s : Int} {n : Nat} {P : Addr → Prop} : Later K cx S1 H1 (fun _ _ => True) (ItG K cx (Itc lo s n) (rngC lo s n)) P := fun Pz hz S H σ' hr k _ i =>
  ⟨fun d e => by
    unfold rngC at e
    rw [List.getElem?_map] at e
    obtain ⟨m, e1, rfl⟩ := Option.map_eq_some_iff.mp e
    obtain ⟨h1, h2⟩ := List.getElem?_eq_some_iff.mp e1
    rw [List.getElem_range] at h2
    rw [List.length_range] at h1
    subst h2
    refine ⟨h1, fun x H' y => ?_⟩
    obtain ⟨e1, e2⟩ := y
    subst e1 e2
    exact ⟨hr, .refl, rfl⟩, fun e => by
    unfold rngC at e
    rw [List.length_map, List.length_range] at e; exact Nat.le_of_eq e⟩
theorem walk_rng3 {a b s : R} {ea eb es tg : Expr} {p pos : Pos} (hg : Gl X "range") (hm : X.mg "range" = none) (hs : starEach [ea, eb, es] X.env = (false, eval ea X.env) :: starEach [eb, es] X.env) (hs1 : starEach [eb, es] X.env = (false, eval eb X.env) :: starEach [es] X.env) (hs2 : starEach [es] X.env = [(false, eval es X.env)])
    (hn : ((backTo pos (starEach [eb, es] X.env)).any fun x => x.fst) = false)
    (ha : PE X ea (liftE X.K cx (wpE T c a))) (hb : PE X eb (liftE X.K cx (wpE T c b))) (hse : PE X es (liftE X.K cx (wpE T c s))) :
    PI X tg (.Call (.Name "range" p) [ea, eb, es] [] pos) (liftI X.K cx (.rng3 a b s) (wpI T c (.rng3 a b s))) :=
  piImp hc (pi_range3 hg hm (pa_cons ha (pa_cons hb (pa_cons hse pa_nil hs2) hs1) hs) hs hn) fun σ H R ⟨S, σ2, hr, rs, w⟩ => stepE hc hr rs w fun x S1 v H1 hr1 k1 rs1 r1 w => stepE hc hr1 rs1 w fun y S2 u H2 hr2 k2 rs2 r2 w => stepE hc hr2 rs2 w fun z S3 o H3 hr3 k3 rs3 r3 ⟨i, j, k, n, ex, ey, ez, h, w'⟩ => by
    subst ex ey ez
    cases r1.1
    cases r2.1
    cases r3.1
    exact ⟨i, j, k, n, rfl, h, w' _ H3 hr3 ((k1.trans k2).trans k3) (itc_later hc)⟩
end
section
variable {X : Cx} {T : Tbl} {c : Nat → List Vx → Hs → VK2 → Prop} {cx : Cls2} (hc : CalMono c)
include hc
omit hc in
theorem dic_pairs {K : Frag} {H : Hp} : ∀ {ps : List (Int × Int)} {ks : List (Key × V)}, DicR K H (ps.map fun p => (D.int p.1, D.int p.2)) ks → ks = ps.map L2.DX.entI
  | [], _, .nil => rfl
  | p :: ps, (k, v) :: ks, .cons h t => by
    have h1 : k = .inl p.1 := h.1
    have h2 : v = .int p.2 := h.2
    rw [dic_pairs t, h1, h2]; rfl
omit hc in
theorem pairs_rep {K : Frag} {H : Hp} : ∀ {ts : List Addr} {qs : List (Int × Int)}, Paired (fun (t : Addr) (q : Int × Int) => H t = some (.tup [.int q.1, .int q.2])) ts qs → RepL K H (qs.map pairD) (ts.map V.ref)
  | _, _, .nil => .nil
  | t :: ts, q :: qs, .cons h r => .cons ⟨t, _, rfl, SqT.of h, .cons rfl (.cons rfl .nil)⟩ (pairs_rep r)
theorem snd_sIt {e : R} {ee : Expr} {p apos cpos pos : Pos} (hcalm : X.calm = true) (hg : Gl X "sorted") (hm : X.mg "sorted" = none) (he : PE X ee (liftE X.K cx (wpE T c e)))
    (hbase : attributeBase ee "items" X.env (eval ee X.env) = eval ee X.env) (hline : (apos.endLine == cpos.line) = true) :
    PE X (.Call (.Name "sorted" p) [.Call (.Attribute ee "items" apos) [] [] cpos] [] pos) (liftE X.K cx (wpE T c (.sIt e))) :=
  peImp (L2.DX.pe_sItems hcalm hg hm he hbase hline) fun σ H Q ⟨S, σ2, hr, rs, w⟩ => stepE hc hr rs w fun x S1 v H1 hr1 k1 rs1 r1 w => by
    obtain ⟨cn, ⟨ps, rfl, hl, q⟩, hcn⟩ := view_of hr1 r1.1 w
    obtain ⟨a, ks, rfl, ha, rd⟩ := hcn
    have e := dic_pairs rd
    subst e
    refine ⟨a, ps, rfl, ha, hl, fun qs ts l H2 hp hs hg2 hn hl2 hpr => ?_⟩
    have k2 : Keep S1 S1 H1 H2 := ⟨fun b o e n => ⟨hg2 b o e, n⟩, fun b e => by
      cases q : H1 b with
      | none => rfl
      | some o => rw [hg2 b o q] at e; cases e⟩
    have hr2 : Rel X.K cx S1 H2 := fun b o e => by
      obtain ⟨h, z, _⟩ := (hr1 b o e).some
      exact RelO.keep (k2.tups hr1) ((hg2 b h z).trans z.symm) (hr1 b o e)
    obtain ⟨x, ex, q⟩ := q qs hp (hs.imp fun h => lex_lt h)
    cases ex
    exact q _ _ hr2 (k1.trans k2) ⟨⟨l, ts.map V.ref, rfl, hl2, hr1.free hn, pairs_rep hpr⟩, fun _ => ⟨l, rfl, k1.up l hn⟩⟩
theorem snd_rev {e : R} {ee : Expr} {k : Nat} {p1 p2 p3 pos : Pos} (he : PE X ee (liftE X.K cx (wpE T c e))) : PE X (.Subscript ee (.Slice none none (some (.UnaryOp .USub (.Constant (.int 1) k p1) p2)) p3) pos) (liftE X.K cx (wpE T c (.rev e))) :=
  peImp (pe_rev2 he) fun σ H Q ⟨S, σ2, hr, rs, w⟩ => stepE hc hr rs w fun x S1 v H1 hr1 k1 rs1 r1 w => by
    have rr : ∀ {ds : List D} {vs : List V}, RepL X.K H1 ds vs → RepL X.K H1 ds.reverse vs.reverse := by
      intro ds
      induction ds with
      | nil => intro vs e; cases e; exact .nil
      | cons d ds ih =>
        rintro _ ⟨v, vr, rfl, r, rr⟩
        rw [List.reverse_cons, List.reverse_cons]
        exact RepL.append (ih rr) (.cons r .nil)
    obtain ⟨cn, ⟨ds, w⟩, hcn⟩ := view_of hr1 r1.1 w
    rcases w with ⟨rfl, q⟩ | ⟨rfl, q⟩
    · obtain ⟨a, vs, rfl, ha, rv⟩ := hcn
      obtain ⟨x, ex, q⟩ := q
      cases ex
      exact .inl ⟨a, vs, rfl, SqL.of ha, fun p n => fin_vl (KVof.of k1 q) hr1 (rr rv) p n⟩
    · obtain ⟨a, vs, rfl, ha, rv⟩ := hcn
      obtain ⟨x, ex, q⟩ := q
      cases ex
      exact .inr ⟨a, vs, rfl, ha, fun p n => fin_tup (KVof.of k1 q) hr1 (rr rv) p n⟩
omit hc in
theorem rgV_rep {K : Frag} {H : Hp} {n : Int} : RepL K H (rngD 0 n.toNat) (rgV 0 n) := by
  have key : ∀ (m : Nat) (lo : Int), RepL K H (rngD lo m) ((List.range m).map fun i => V.int (lo + (i : Nat))) := by
    intro m
    induction m with
    | zero => intro lo; exact .nil
    | succ m ih =>
      intro lo
      rw [List.range_succ_eq_map, List.map_cons]
      refine .cons (by show V.int (lo + ((0 : Nat) : Int)) = V.int lo; simp) ?_
      rw [List.map_map]
      have e : ((fun i : Nat => V.int (lo + (i : Nat))) ∘ Nat.succ) = fun i : Nat => V.int (lo + 1 + (i : Nat)) := by
        funext i
        show V.int (lo + ((i + 1 : Nat) : Int)) = _
        congr 1; push_cast; omega
      rw [e]
      exact ih (lo + 1)
  unfold rgV
  rw [show (n - 0).toNat = n.toNat by omega]
  exact key n.toNat 0
theorem snd_lrg {a : R} {ea : Expr} {p p2 pos2 pos : Pos} (hcalm : X.calm = true) (hg : Gl X "list") (hm : X.mg "list" = none) (hg2 : Gl X "range") (hm2 : X.mg "range" = none) (ha : PE X ea (liftE X.K cx (wpE T c a)))
    (na : starEach [ea] X.env = (false, eval ea X.env) :: starEach [] X.env) : PE X (.Call (.Name "list" p) [.Call (.Name "range" p2) [ea] [] pos2] [] pos) (liftE X.K cx (wpE T c (.lrg a))) :=
  peImp (pe_listRg hcalm hg hm (prg_1 hg2 hm2 ha na)) fun σ H Q ⟨S, σ2, hr, rs, w⟩ => stepE hc hr rs w fun x S1 v H1 hr1 k1 rs1 r1 ⟨n, ex, h1, h2, x', ex', q⟩ => by
    subst ex
    cases r1.1
    cases ex'
    exact ⟨n, rfl, ⟨by omega, by omega, by omega, by omega, by omega⟩, fun p n => fin_vl (KVof.of k1 q) hr1 rgV_rep p n⟩
omit hc in
theorem repL_ints {K : Frag} {H : Hp} : ∀ ns : List Int, RepL K H (ns.map D.int) (ns.map V.int)
  | [] => .nil
  | _ :: ns => .cons rfl (repL_ints ns)
theorem snd_setop {k : Bool} {a : R} {ea e : Expr} (hp : ∀ ta, PE X ea ta → PE X e (tSet2 X.K k ta)) (ha : PE X ea (liftE X.K cx (wpE T c a))) : PE X e (liftE X.K cx (wpE T c (.setop k a))) :=
  peImp (hp _ ha) fun σ H Q ⟨S, σ2, hr, rs, w⟩ => stepE hc hr rs w fun x S1 v H1 hr1 k1 rs1 r1 w => by
    obtain ⟨cn, ⟨ns, rfl, hl, q⟩, hcn⟩ := view_of hr1 r1.1 w
    obtain ⟨l, vs, rfl, hs, rv⟩ := hcn
    have e := rv.ints
    subst e
    refine ⟨l, ns, rfl, hs, hl, fun ms m1 m2 m3 => ⟨fun hk p hn => ?_, fun hk => ?_⟩⟩
    · obtain ⟨x, ex, q⟩ := q ms m1 m2 m3
      rw [if_pos hk] at ex
      cases ex
      exact fin_vl (KVof.of k1 q) hr1 (repL_ints ms) p hn
    · obtain ⟨x, ex, q⟩ := q ms m1 m2 m3
      rw [if_neg (by rw [hk]; exact Bool.false_ne_true)] at ex
      cases ex
      exact fin_int (KVof.of k1 q) hr1
theorem snd_slen {a : R} {ea e : Expr} (hp : ∀ ta, PE X ea ta → PE X e (tSlen X.K ta)) (ha : PE X ea (liftE X.K cx (wpE T c a))) : PE X e (liftE X.K cx (wpE T c (.slen a))) :=
  peImp (hp _ ha) fun σ H Q ⟨S, σ2, hr, rs, w⟩ => stepE hc hr rs w fun x S1 v H1 hr1 k1 rs1 r1 w => by
    obtain ⟨cn, ⟨ns, rfl, hl, q⟩, hcn⟩ := view_of hr1 r1.1 w
    obtain ⟨l, vs, rfl, hs, rv⟩ := hcn
    have e := rv.ints
    subst e
    refine ⟨l, ns, rfl, SqL.of hs, hl, fun ms m1 m2 => ?_⟩
    obtain ⟨x, ex, q⟩ := q ms m1 m2
    cases ex
    exact fin_int (KVof.of k1 q) hr1
theorem snd_index {o a : R} {eo ea e : Expr} (hp : ∀ to t, PE X eo to → PA X [ea] t → PE X e (tBM X.K "list" (rIndex X.K) to t)) (hs : starEach [ea] X.env = [(false, eval ea X.env)]) (ho : PE X eo (liftE X.K cx (wpE T c o))) (ha : PE X ea (liftE X.K cx (wpE T c a))) :
    PE X e (liftE X.K cx (wpE T c (.bm1 .index o a))) :=
  peImp (hp _ _ ho (pa_cons ha pa_nil hs)) fun σ H Q ⟨S, σ2, hr, rs, w⟩ => stepE hc hr rs w fun x S1 v H1 hr1 k1 rs1 r1 ⟨ty, w⟩ => by
    obtain ⟨cn, ⟨ds0, rfl⟩, hcn⟩ := view_of hr1 r1.1 ty
    obtain ⟨l0, vs0, rfl, h0, _⟩ := hcn
    refine ⟨.inl ⟨rfl, vs0, SqL.of h0⟩, stepE hc hr1 rs1 w fun y S2 u H2 hr2 k2 rs2 r2 w => ?_⟩
    obtain ⟨cn, ⟨ds, yd, j, z, rfl, rfl, f1, f2, g1, g2, g3, x', ex, q⟩, hcn⟩ := view_of hr2 (r1.1.keep k2 hr1) w
    obtain ⟨l, vs, e, hl, rv⟩ := hcn
    cases e
    cases ex
    have ru : RepV X.K H2 yd u := r2.1
    obtain ⟨zv, hz, rz⟩ := rv.get g1
    have fz : flatD z = true := List.all_eq_true.mp f2 z (List.mem_of_getElem? g1)
    refine ⟨l0, vs, u, j, zv, rfl, rfl, SqL.of hl, flat_rel f1 ru, flats_rel f2 rv, hz, by rw [eqV_eqB fz f1 rz ru]; exact g2, fun m z' hm hz' => ?_, fin_int (KVof.of (k1.trans k2) q) hr2⟩
    have hmd : m < ds.length := by rw [rv.length]; exact (List.getElem?_eq_some_iff.mp hz').1
    obtain ⟨zv', hz2, rz2⟩ := rv.get (List.getElem?_eq_getElem hmd)
    rw [hz'] at hz2
    cases hz2
    have fz2 : flatD ds[m] = true := List.all_eq_true.mp f2 _ (List.getElem_mem hmd)
    rw [eqV_eqB fz2 f1 rz2 ru]
    exact g3 m _ hm (List.getElem?_eq_getElem hmd)
theorem snd_count {o a : R} {eo ea e : Expr} (hp : ∀ to t, PE X eo to → PA X [ea] t → PE X e (tBM X.K "list" (rCntI X.K) to t)) (hs : starEach [ea] X.env = [(false, eval ea X.env)]) (ho : PE X eo (liftE X.K cx (wpE T c o))) (ha : PE X ea (liftE X.K cx (wpE T c a))) :
    PE X e (liftE X.K cx (wpE T c (.bm1 .count o a))) :=
  peImp (hp _ _ ho (pa_cons ha pa_nil hs)) fun σ H Q ⟨S, σ2, hr, rs, w⟩ => stepE hc hr rs w fun x S1 v H1 hr1 k1 rs1 r1 ⟨ty, w⟩ => by
    obtain ⟨cn, ⟨ds0, rfl⟩, hcn⟩ := view_of hr1 r1.1 ty
    obtain ⟨l0, vs0, rfl, h0, _⟩ := hcn
    refine ⟨.inl ⟨rfl, vs0, SqL.of h0⟩, stepE hc hr1 rs1 w fun y S2 u H2 hr2 k2 rs2 r2 w => ?_⟩
    obtain ⟨cn, ⟨ns, k, rfl, rfl, x', ex, q⟩, hcn⟩ := view_of hr2 (r1.1.keep k2 hr1) w
    obtain ⟨l, vs, e, hl, rv⟩ := hcn
    cases e
    cases ex
    have e2 := rv.ints
    subst e2
    obtain rfl : u = .int k := r2.1
    exact ⟨l0, ns, k, rfl, rfl, SqL.of hl, fin_int (KVof.of (k1.trans k2) q) hr2⟩
omit hc in
theorem pe_xtIdx {o e : Expr} {to : TE} {t : TA} {apos cpos : Pos} (ho : PE X o to) (ha : PA X [e] t) (hbase : attributeBase o "index" X.env (eval o X.env) = eval o X.env)
    (hfew : ((backTo cpos (starEach [e] X.env)).all (fun x => !x.1) && (backToKw cpos (keywordEach [] X.env)).all (fun x => x.1.isSome) && decide ([e].length + ([] : List Keyword).length + (if ([] : List Keyword).isEmpty then 0 else 1) < 30)) = true)
    (hline : (apos.endLine == cpos.line) = true) (hs : starEach [e] X.env = (false, eval e X.env) :: starEach [] X.env) :
    PE X (.Call (.Attribute o "index" apos) [e] [] cpos) (fun σ H Q => to σ H fun x H1 => ∃ p, x = .ref p ∧ (∃ vs, SqE H1 p vs) ∧ t σ H1 fun xs H2 => ∃ (ns : List Int) (k : Int), xs = [.int k] ∧ SqT X.K H2 p (ns.map V.int) ∧ k ∈ ns ∧ Q (.int (ns.idxOf k : Nat)) H2) := by
  refine ⟨fun pins s σ H Q I h => wpAny_Call_method_late hbase hfew hline rfl (thn (ho.run pins s σ H _ I h) fun v s1 ⟨x, H1, I1, r1, p, ex, ⟨vs, u, hu, hd⟩, q1⟩ => ?_)⟩
  subst ex
  cases r1
  obtain ⟨hg, _, its0, _, o2, ho2, hc2, _⟩ := I1.hok p _ hu
  rw [hg] at ho2
  cases ho2
  refine ⟨"tuple", "tuple.index", PySem.F.plainAttrs_tuple, PySem.F.slot_tuple_index, PySem.F.type_tuple_index, ⟨u, hg, hc2⟩, fun a ea => by cases ea; exact ⟨u, hg, hd⟩, ?_⟩
  have hA := ha.run cpos pins s1 σ H1 _ I1 q1
  rw [hs] at hA ⊢
  refine Calls.callWith_builtin (by show (false || (backTo cpos (starEach [] X.env)).any (·.1)) = false; rfl) (Calls.evalArgs_plain ?_)
  refine thn hA fun us s2 ⟨ys, H2, I2, r2, ns, k, ey, hq, hk, q2⟩ => ?_
  subst ey
  obtain ⟨uk, rfl, tk, rfl⟩ := vals1 r2
  obtain ⟨its, rv, pl, hz⟩ := I2.tuple hq
  have hl := rv.length
  rw [List.length_map] at hl
  refine SeqAt.call_tuple_index (ks := ns) (k := k) pl ⟨hl.symm, fun j h1 h2 => ?_⟩ hk ⟨.int (ns.idxOf k : Nat), H2, I2.tok _, ⟨_, rfl⟩, q2⟩
  obtain ⟨w, hw, tw, ew⟩ := rv.get (i := j) (x := V.int ns[j]) (by simp [h2])
  have e1 : its[j] = w := by
    have := (List.getElem?_eq_some_iff.mp hw).2
    exact this
  rw [e1, ew, show decide (ns[j] = k) = (ns[j] == k) from by by_cases z : ns[j] = k <;> simp [z]]
  exact SeqAt.EqAt.int_int _ _ _ _
theorem snd_indexT {o a : R} {eo ea e : Expr} (hp : ∀ to t, PE X eo to → PA X [ea] t → PE X e (fun σ H Q => to σ H fun x H1 => ∃ p, x = .ref p ∧ (∃ vs, SqE H1 p vs) ∧ t σ H1 fun xs H2 => ∃ (ns : List Int) (k : Int), xs = [.int k] ∧ SqT X.K H2 p (ns.map V.int) ∧ k ∈ ns ∧ Q (.int (ns.idxOf k : Nat)) H2))
    (hs : starEach [ea] X.env = [(false, eval ea X.env)]) (ho : PE X eo (liftE X.K cx (wpE T c o))) (ha : PE X ea (liftE X.K cx (wpE T c a))) : PE X e (liftE X.K cx (wpE T c (.bm1 .indexT o a))) :=
  peImp (hp _ _ ho (pa_cons ha pa_nil hs)) fun σ H Q ⟨S, σ2, hr, rs, w⟩ => stepE hc hr rs w fun x S1 v H1 hr1 k1 rs1 r1 ⟨ty, w⟩ => by
    obtain ⟨ds0, rfl⟩ := ty
    obtain ⟨p, vs0, rfl, h0, r0⟩ := r1.1
    refine ⟨p, rfl, ⟨vs0, h0⟩, stepE hc hr1 rs1 w fun y S2 u H2 hr2 k2 rs2 r2 w => ?_⟩
    obtain ⟨ns, k, ex, rfl, hk, x', ex', q⟩ := w
    cases ex
    cases ex'
    obtain ⟨p', vs, e, hv, rv⟩ : RepV X.K H2 (.xt (ns.map D.int)) (.ref p) := RepV.keep (k2.tups hr1) _ _ r1.1
    cases e
    have e2 := rv.ints
    subst e2
    obtain rfl : u = .int k := r2.1
    exact ⟨ns, k, rfl, hv.t, hk, fin_int (KVof.of (k1.trans k2) q) hr2⟩
omit hc in
theorem strs_rep {K : Frag} {H : Hp} : ∀ {zs : List (List Nat)} {vs : List V}, RepL K H (zs.map D.str) vs → vs = (zs.map sv).map V.str
  | [], _, e => e
  | z :: zs, _, ⟨v, vr, e, r, rr⟩ => by subst e; cases r; rw [strs_rep rr]; rfl
omit hc in
theorem strs_of {K : Frag} {H : Hp} : ∀ (ys : List Str), RepL K H ((ys.map fun z => z.cps.toList).map D.str) (ys.map V.str)
  | [] => .nil
  | y :: ys => .cons (by show V.str y = V.str (sv y.cps.toList); congr 1) (strs_of ys)
omit hc in
theorem sv_cps (y : Str) : sv y.cps.toList = y := by show (⟨y.cps.toList.toArray⟩ : Str) = y; simp
theorem snd_join {o a : R} {eo ea : Expr} {apos pos : Pos} (hs : starEach [ea] X.env = [(false, eval ea X.env)]) (hbase : attributeBase eo "join" X.env (eval eo X.env) = eval eo X.env) (hline : (apos.endLine == pos.line) = true) (ho : PE X eo (liftE X.K cx (wpE T c o))) (ha : PE X ea (liftE X.K cx (wpE T c a))) :
    PE X (.Call (.Attribute eo "join" apos) [ea] [] pos) (liftE X.K cx (wpE T c (.bm1 .join o a))) :=
  peImp (pe_join ho ha hs hbase hline) fun σ H Q ⟨S, σ2, hr, rs, w⟩ => stepE hc hr rs w fun x S1 v H1 hr1 k1 rs1 r1 ⟨ty, w⟩ => by
    have isS : ∃ s, x = .d (.str s) := by
      cases x with
      | d y => cases y <;> first | exact ⟨_, rfl⟩ | exact ty.elim
      | _ => exact ty.elim
    obtain ⟨s, rfl⟩ := isS
    cases r1.1
    refine ⟨⟨_, rfl⟩, stepE hc hr1 rs1 w fun y S2 u H2 hr2 k2 rs2 r2 w => ?_⟩
    obtain ⟨cn, ⟨s', zs, e1, rfl, hz, x', ex, q⟩, hcn⟩ := view_of hr2 r2.1 w
    cases e1
    cases ex
    obtain ⟨l, vs, rfl, hl, rv⟩ := hcn
    have e2 := strs_rep rv
    subst e2
    refine ⟨_, l, zs.map sv, rfl, rfl, .inl (SqL.of hl), ?_, ?_⟩
    · rw [List.map_map, List.length_map, sv_length]
      have : (List.map (Str.length ∘ sv) zs) = zs.map List.length := List.map_congr_left fun z _ => sv_length z
      rw [show (List.map ((fun x => x.length) ∘ sv) zs) = zs.map List.length from this]
      exact hz
    · have := fin_d (KVof.of (k1.trans k2) q) hr2 (v := .str (sv (joinD s zs))) rfl
      unfold joinD at this
      rw [sv_cps] at this
      exact this
theorem snd_split {o a : R} {eo ea : Expr} {apos pos : Pos} (hs : starEach [ea] X.env = [(false, eval ea X.env)]) (hbase : attributeBase eo "split" X.env (eval eo X.env) = eval eo X.env) (hline : (apos.endLine == pos.line) = true) (ho : PE X eo (liftE X.K cx (wpE T c o))) (ha : PE X ea (liftE X.K cx (wpE T c a))) :
    PE X (.Call (.Attribute eo "split" apos) [ea] [] pos) (liftE X.K cx (wpE T c (.bm1 .split o a))) :=
  peImp (pe_split ho ha hs hbase hline) fun σ H Q ⟨S, σ2, hr, rs, w⟩ => stepE hc hr rs w fun x S1 v H1 hr1 k1 rs1 r1 ⟨ty, w⟩ => by
    have isS : ∃ s, x = .d (.str s) := by
      cases x with
      | d y => cases y <;> first | exact ⟨_, rfl⟩ | exact ty.elim
      | _ => exact ty.elim
    obtain ⟨s, rfl⟩ := isS
    cases r1.1
    refine ⟨⟨_, rfl⟩, stepE hc hr1 rs1 w fun y S2 u H2 hr2 k2 rs2 r2 ⟨s', t, e1, e2, h0, hz, x', ex, q⟩ => ?_⟩
    cases e1
    subst e2
    cases r2.1
    cases ex
    refine ⟨_, _, rfl, rfl, ?_, by rw [sv_length]; exact hz, fun p n => ?_⟩
    · rw [sv_length]
      cases t with
      | nil => exact (h0 rfl).elim
      | cons c t => rfl
    · exact fin_vl (KVof.of (k1.trans k2) q) hr2 (strs_of _) p n
theorem snd_upper {o : R} {eo : Expr} {apos pos : Pos} (hbase : attributeBase eo "upper" X.env (eval eo X.env) = eval eo X.env) (hline : (apos.endLine == pos.line) = true) (ho : PE X eo (liftE X.K cx (wpE T c o))) :
    PE X (.Call (.Attribute eo "upper" apos) [] [] pos) (liftE X.K cx (wpE T c (.upper o))) :=
  peImp (pe_upper ho hbase hline) fun σ H Q ⟨S, σ2, hr, rs, w⟩ => stepE hc hr rs w fun x S1 v H1 hr1 k1 rs1 r1 ⟨s, ex, hz, x', ex', q⟩ => by
    subst ex
    cases r1.1
    cases ex'
    refine ⟨⟨_, rfl⟩, _, rfl, rfl, by rw [sv_length]; omega, ?_⟩
    have := fin_d (KVof.of k1 q) hr1 (v := .str (sv (upD s))) rfl
    unfold upD at this
    rw [sv_cps] at this
    exact this
end
noncomputable def IteT (K : PySem.W.Frag) (a : Addr) : It :=
  ⟨fun i H => ∃ (xs : List V) (x : V), SqT K H a xs ∧ xs[i]? = some x, fun i H v H' => ∃ T x, v = .ref T ∧ H T = none ∧ H' = upd H T (.tup [.int (i : Nat), x]) ∧ ∀ xs, SqT K H a xs → xs[i]? = some x, fun i H => ∃ xs : List V, SqT K H a xs ∧ xs.length = i⟩
theorem turn_enumT {P : Program} {w : World} {K : PySem.W.Frag} {elts : List Expr} {kk : Nat} {tpos : Pos} (a e it : Addr) :
    Turn P w K (.Tuple elts kk tpos) (IteT K a) [e, it] e (fun i h => (∃ old, IsEnum h e it ((i : Nat) : Int) old) ∧ h.IsTupleIter it a i ∧ e ≠ it) where
  mem := by simp
  obj := fun i h st b hb => by
    obtain ⟨⟨old, he⟩, ⟨o, ho, hc, hd⟩, _⟩ := st
    have e' : b = e ∨ b = it := by simpa using hb
    rcases e' with z | z
    · rw [z]; exact ⟨_, he, fun v q => nomatch q⟩
    · rw [z]; exact ⟨o, ho, fun v q => by rw [hd] at q; cases q⟩
  keep := fun i h h' st k => let ⟨⟨old, he⟩, hi, hne⟩ := st; ⟨⟨old, k e (by simp) _ he⟩, hi.at fun o q => k it (by simp) o q, hne⟩
  item := by
    intro X hP hw hK hc i pins s σ H E I hf st hg
    subst hP hw hK
    obtain ⟨⟨old, he⟩, hit, hne⟩ := st
    obtain ⟨xs, x, hq, hx⟩ := hg
    obtain ⟨its, rv, p, hz⟩ := I.tuple hq
    obtain ⟨u, hu, ru⟩ := rv.get hx
    have hel : e < s.heap.objs.size := Heap.lt_size he
    have hil : it < s.heap.objs.size := by obtain ⟨_, q, _⟩ := hit; exact Heap.lt_size q
    have hae : a ≠ it := fun z => by
      subst z
      obtain ⟨o, q, c, d⟩ := hit
      obtain ⟨o', q', c', _⟩ := p
      rw [q] at q'; cases q'
      rw [c] at c'
      exact absurd c' (by decide +kernel)
    have hee : a ≠ e := fun z => by
      subst z
      obtain ⟨o', q', c', _⟩ := p
      rw [he] at q'; cases q'
      have c'' : Value.type "enumerate" = Value.type "tuple" := c'
      exact absurd c'' (by decide +kernel)
    have hlen : i < its.toArray.size := by
      have := (List.getElem?_eq_some_iff.mp hu).1
      simpa using this
    refine wpAny_pyNext_enum_itemD (Draws.tuple (prog := X.prog) (w := X.w) (A := X.A.in1) (show X.A.in1.handled = none from I.ok.hd hc) it a hae its.toArray) he ⟨hit, (show s.heap.IsTuple a its.toArray from p)⟩ hlen hne (by simp [hne, Ne.symm hee]) fun u' h' tk hP ho hst' hT hsz hk => ?_
    have eu : u' = u := by
      have hP : its.toArray[i]? = some u' := hP
      have hu2 : its.toArray[i]? = some u := by simpa using hu
      rw [hu2] at hP
      exact (Option.some.inj hP).symm
    subst eu
    refine ⟨_, rfl, wpAny_letOwnedTupleGo_enum (s := { s with heap := h', toks := tk + 1 }) ho fun h'' he' sb => ?_⟩
    have hT2 : h''.get? s.heap.objs.size = some { cls := .type "tuple", data := .seq #[.int i tk, u'] } := (sb.2 _ (Nat.ne_of_gt hel)).trans hT
    have new : ObjOk X.prog X.w (upd H s.heap.objs.size (.tup [.int (i : Nat), x])) h'' s.heap.objs.size (.tup [.int (i : Nat), x]) :=
      ⟨by show 2 ≤ sizeLine; decide, [.int i tk, u'], .cons ⟨_, rfl⟩ (.cons ru .nil), ⟨_, hT2, rfl, _, rfl⟩⟩
    have I1 : Inv X pins σ (upd H s.heap.objs.size (.tup [.int (i : Nat), x])) { s with heap := h'', toks := tk + 1 } :=
      I.turnedNew (ch := [e, it]) (fun b ob hb q => (sb.2 b (fun z => hb (by simp [z]))).trans (hk b ob (fun z => hb (by simp [z])) (fun z => hb (by simp [z])) q)) hf (Nat.le_refl _) new
    refine ⟨.ref s.heap.objs.size, _, I1, rfl, ⟨_, x, rfl, I.hok.fresh (Nat.le_refl _), rfl, fun ys hy => by rw [I.tuple_inj hy hq]; exact hx⟩, ⟨⟨u', ?_⟩, hst'.1.at fun o q => (sb.2 it (Ne.symm hne)).trans q, hne⟩, fun b hb => ?_⟩
    · have e1 : ((i + 1 : Nat) : Int) = (i : Int) + 1 := by omega
      rw [e1]; exact he'
    · have hb' : b < s.heap.objs.size := by
        have e' : b = e ∨ b = it := by simpa using hb
        rcases e' with z | z
        · rw [z]; exact hel
        · rw [z]; exact hil
      rw [upd_ne (Nat.ne_of_lt hb')]
      exact (hf b hb).1
  done := by
    intro X hP hw hK hc i pins s σ H E I hf st hg
    subst hP hw hK
    obtain ⟨⟨old, he⟩, hit, hne⟩ := st
    obtain ⟨xs, hq, hx⟩ := hg
    obtain ⟨its, rv, p, hz⟩ := I.tuple hq
    obtain ⟨f0, f1, f2, f3, f4, f5⟩ := hf it (by simp)
    have hl := rv.length
    have hae : a ≠ it := fun z => by
      subst z
      obtain ⟨o, q, c, d⟩ := hit
      obtain ⟨o', q', c', _⟩ := p
      rw [q] at q'; cases q'
      rw [c] at c'
      exact absurd c' (by decide +kernel)
    have hs : its.toArray.size = i := by rw [List.size_toArray, ← hl]; exact hx
    refine wpAny_pyNext_enum_endD (Draws.tuple (prog := X.prog) (w := X.w) (A := X.A.in1) (show X.A.in1.handled = none from I.ok.hd hc) it a hae its.toArray) he ⟨by rw [hs]; exact hit, (show s.heap.IsTuple a its.toArray from p)⟩ fun h' eb => ⟨rfl, I.turned (t' := s.toks) (fun b o hb q => eb b o hb q) f0 f1 f3 f4 f5⟩
  self := fun A i s Q E st h => let ⟨⟨_, he⟩, _⟩ := st; wpAny_pyIter_enum he h
theorem meets_enumT {v : Value} {o : Obj} {H : Heap → Prop} (B : Begins v o H) :
    Meets (Builtin.«enumerate.__new__» ⟨[.type "enumerate", v], []⟩) (fun _ R s => H s.heap ∧
      R (.ok (.ret (.ref (s.heap.push o).objs.size))) { s with heap := (s.heap.push o).push { cls := .type "enumerate", data := .fields #[.none, .bool false, .ref s.heap.objs.size, rawInt 0, .none, .none] } }) :=
  .of_wp fun prog w A R s h => by
    obtain ⟨hp, g, d, tk, os⟩ := s; obtain ⟨h1, h⟩ := h
    have hsub := sub_enumerate
    have q1 : ∀ {A' : Around} {E : Value → Shared → Prop} {Q : Value → Shared → Prop}, Q (.ref hp.objs.size) ⟨hp.push o, g, d, tk, os⟩ → wpAny (model prog w) A' (pyIter v) Q E ⟨hp, g, d, tk, os⟩ :=
      fun q => B.iter prog w _ _ ⟨hp, g, d, tk, os⟩ _ h1 q
    wp_walk using q1
    refine wpAny_stack_any fun st => wpAny_pure ?_
    split
    · rename_i c _ _ _ _ _
      cases (c == Value.type "enumerate")
      · wp_walk using q1
        exact ⟨_, rfl, h⟩
      · wp_walk using q1
        exact ⟨_, rfl, h⟩
    · wp_walk using q1
      exact ⟨_, rfl, h⟩
theorem call_enumT {prog : Program} {w : World} {A : Around} {E : Value → Shared → Prop} {s : Shared} {v : Value} {o : Obj} {H : Heap → Prop} {Q : Value → Shared → Prop} (B : Begins v o H) (h1 : H s.heap)
    (h : ∀ h', IsEnum h' (s.heap.objs.size + 1) s.heap.objs.size 0 .none → h'.get? s.heap.objs.size = some o → h'.objs.size = s.heap.objs.size + 2 →
      (∀ b o, s.heap.get? b = some o → h'.get? b = some o) → Q (.ref (s.heap.objs.size + 1)) { s with heap := h' }) :
    wpAny (model prog w) A (call (.type "enumerate") [v]) Q E s := by
  refine callType_new F.called_enumerate (by decide) (F.typeCall_enumerate_1 _) (F.newCall_enumerate_1 _) (fun obj => F.args_object_init_2 obj _) F.entry_enumerate_new
    (meets_enumT B) ⟨h1, ?_⟩
  have hz : (s.heap.push o).objs.size = s.heap.objs.size + 1 := Heap.size_push ..
  show _ ∧ _
  rw [hz]
  have he : IsEnum ((s.heap.push o).push { cls := .type "enumerate", data := .fields #[.none, .bool false, .ref s.heap.objs.size, rawInt 0, .none, .none] }) (s.heap.objs.size + 1) s.heap.objs.size 0 .none := by
    have := Heap.get?_push_size (s.heap.push o) (o := { cls := .type "enumerate", data := .fields #[.none, .bool false, .ref s.heap.objs.size, rawInt 0, .none, .none] }) rfl
    rw [hz] at this; exact this
  refine ⟨⟨_, he, rfl⟩, h _ he (Heap.get?_push_of_some _ (Heap.get?_push_size _ B.free)) (by rw [Heap.size_push, hz]) fun b o x => Heap.get?_push_of_some _ (Heap.get?_push_of_some _ x)⟩
noncomputable def iEnumA (K : Frag) (ta : TA) : TI := fun σ H R => ta σ H fun vs H1 => ∃ a, vs = [.ref a] ∧ (((∃ xs, SqL K H1 a xs) ∧ R (Ite K a) H1) ∨ ((∃ xs, SqT K H1 a xs) ∧ R (IteT K a) H1))
theorem pi_enumA {X : Cx} {e : Expr} {ta : TA} {p pos tpos : Pos} {elts : List Expr} {kk : Nat} (hg : Gl X "enumerate") (hm : X.mg "enumerate" = none) (ha : PA X [e] ta) (hs : starEach [e] X.env = [(false, eval e X.env)]) :
    PI X (.Tuple elts kk tpos) (.Call (.Name "enumerate" p) [e] [] pos) (iEnumA X.K ta) := by
  refine ⟨fun pins s σ H R I h => ?_⟩
  refine Call_ (ld_blt I hg hm boot_enumerate (PyProof.Rows.callWith_type1 (thn (ha.run pos pins s σ H _ I h) fun us s1 ⟨vs, H1, I1, r1, q1⟩ => ?_) hs rfl))
  obtain ⟨a, ex, q⟩ := q1
  subst ex
  cases r1 with
  | cons r rr =>
    cases rr
    cases r
    have fp2 : ∀ b ∈ [s1.heap.objs.size + 1, s1.heap.objs.size], FpOk X pins H1 b := fun b hb => by
      have e' : b = s1.heap.objs.size + 1 ∨ b = s1.heap.objs.size := by simpa using hb
      have hle : s1.heap.objs.size ≤ b := by
        rcases e' with z | z
        · rw [z]; exact Nat.le_add_right _ _
        · rw [z]; exact Nat.le_refl _
      exact I1.fpOk hle (I1.hok.fresh hle)
    rcases q with ⟨⟨xs, hq⟩, q⟩ | ⟨⟨xs, hq⟩, q⟩
    · obtain ⟨its, rv, p', hz⟩ := I1.list hq
      refine call_enumerate_list p'.isList fun h' he hit hsz hk => wpAny_pyIter_enum he ?_
      have I2 : Inv X pins σ H1 { s1 with heap := h' } := I1.kept (t' := s1.toks) hk
      exact ⟨s1.heap.objs.size + 1, [s1.heap.objs.size + 1, s1.heap.objs.size], _, _, H1, rfl, I2, turn_enum a (s1.heap.objs.size + 1) s1.heap.objs.size, ⟨⟨.none, he⟩, hit, Nat.succ_ne_self _⟩, fp2, q⟩
    · obtain ⟨its, rv, p', hz⟩ := I1.tuple hq
      refine call_enumT (begins_tuple a its.toArray) (show s1.heap.IsTuple a its.toArray from p') fun h' he hit hsz hk => wpAny_pyIter_enum he ?_
      have I2 : Inv X pins σ H1 { s1 with heap := h' } := I1.kept (t' := s1.toks) hk
      exact ⟨s1.heap.objs.size + 1, [s1.heap.objs.size + 1, s1.heap.objs.size], _, _, H1, rfl, I2, turn_enumT a (s1.heap.objs.size + 1) s1.heap.objs.size, ⟨⟨.none, he⟩, ⟨_, hit, rfl, rfl⟩, Nat.succ_ne_self _⟩, fp2, q⟩
theorem enumD_get : ∀ (ds : List D) (n i : Nat) (d : D), (enumD n ds)[i]? = some d → ∃ x, ds[i]? = some x ∧ d = .tup [.int ((n + i : Nat) : Int), x]
  | [], _, _, _, e => by simp [enumD] at e
  | a :: as, n, 0, d, e => ⟨a, rfl, by simp [enumD] at e; exact e.symm⟩
  | a :: as, n, i + 1, d, e => by
    obtain ⟨x, h1, h2⟩ := enumD_get as (n + 1) i d (by simpa [enumD] using e)
    refine ⟨x, by simpa using h1, ?_⟩
    rw [h2]
    have : n + 1 + i = n + (i + 1) := by omega
    rw [this]
theorem enumD_length : ∀ (ds : List D) (n : Nat), (enumD n ds).length = ds.length
  | [], _ => rfl
  | a :: as, n => by simp [enumD, enumD_length as]
theorem zipD_get : ∀ (as bs : List D) (i : Nat) (d : D), (zipD as bs)[i]? = some d → ∃ x y, as[i]? = some x ∧ bs[i]? = some y ∧ d = .tup [x, y]
  | [], _, _, _, e => by simp [zipD] at e
  | a :: as, [], _, _, e => by simp [zipD] at e
  | a :: as, b :: bs, 0, d, e => ⟨a, b, rfl, rfl, by simp [zipD] at e; exact e.symm⟩
  | a :: as, b :: bs, i + 1, d, e => by
    obtain ⟨x, y, h1, h2, h3⟩ := zipD_get as bs i d (by simpa [zipD] using e)
    exact ⟨x, y, by simpa using h1, by simpa using h2, h3⟩
theorem zipD_length : ∀ (as bs : List D), (zipD as bs).length = min as.length bs.length
  | [], _ => by simp [zipD]
  | a :: as, [] => by simp [zipD]
  | a :: as, b :: bs => by simp [zipD, zipD_length as bs]
section
variable {K : Frag} {cx : Cls2} {S S1 S2 : Hs} {H H1 H2 : Hp}
theorem pair_new {H : Hp} {T : Addr} {x y : V} {d e : D} (hr : Rel K cx S H) (n : H T = none) (rx : RepV K H d x) (ry : RepV K H e y) :
    Rel K cx S (upd H T (.tup [x, y])) ∧ Keep S S H (upd H T (.tup [x, y])) ∧ RepV K (upd H T (.tup [x, y])) (.tup [d, e]) (.ref T) := by
  have t := tupS_new (K := K) (h := .tup [x, y]) n
  exact ⟨hr.upd0 (hr.free n) t, Keep.new n, T, [x, y], rfl, SqT.of upd_same, .cons (RepV.keep t _ _ rx) (.cons (RepV.keep t _ _ ry) .nil)⟩
theorem Later.keep {ok : Sl → Hs → Prop} {G : Hs → Hp → Prop} {P : Addr → Prop} (k : Keep S1 S2 H1 H2) (l : Later K cx S1 H1 ok G P) : Later K cx S2 H2 ok G P := fun Pz hz S H σ' hr kk o =>
  l (fun b => S1 b = none ∧ H1 b ≠ none ∧ P b) (fun b a c d => ⟨a, c, d⟩) S H σ' hr (fun b ⟨a, c, d⟩ => by
    cases q : H1 b with
    | none => exact (c q).elim
    | some o =>
      obtain ⟨h1, h2⟩ := k.kp b o q a
      obtain ⟨h3, h4⟩ := kk b (hz b h2 (by rw [h1]; simp) d)
      exact ⟨h3, by rw [h4, h1]⟩) o
theorem Later.weak {ok ok' : Sl → Hs → Prop} {G : Hs → Hp → Prop} {P P' : Addr → Prop} (hP : ∀ b, P b → P' b) (ho : ∀ σ S, ok' σ S → ok σ S) (l : Later K cx S1 H1 ok G P) : Later K cx S1 H1 ok' G P' := fun Pz hz S H σ' hr kk o =>
  l Pz (fun b a c d => hz b a c (hP b d)) S H σ' hr kk (ho _ _ o)
end
section
variable {X : Cx} {T : Tbl} {c : Nat → List Vx → Hs → VK2 → Prop} {cx : Cls2} (hc : CalMono c)
include hc
theorem walk_enu {it : R} {ea : Expr} {elts : List Expr} {kk : Nat} {p pos tpos : Pos} (hg : Gl X "enumerate") (hm : X.mg "enumerate" = none) (hs : starEach [ea] X.env = [(false, eval ea X.env)])
    (h : PE X ea (liftSrc X.K cx it (wpI T c it))) : PI X (.Tuple elts kk tpos) (.Call (.Name "enumerate" p) [ea] [] pos) (liftI X.K cx (.enu it) (wpI T c (.enu it))) :=
  piImp hc (pi_enumA hg hm (pa_cons h pa_nil hs) hs) fun σ H R ⟨S, σ2, hr, rs, w⟩ => ⟨S, σ2, hr, rs, wpI_mono hc w fun J2 S1 q a H1 hr1 k1 src => ⟨a, rfl, by
    rcases src with ⟨_, ⟨vs, h⟩, lt⟩ | ⟨_, ⟨vs, h⟩, lt⟩
    · refine .inl ⟨⟨vs, h⟩, q (Ite X.K a) H1 hr1 k1 fun Pz hz S H σ' hr k ok i => ?_⟩
      obtain ⟨us, h1, h2⟩ := lt Pz hz S H σ' hr k ok
      refine ⟨fun d e => ?_, fun e => ⟨us, h1, by rw [← h2.length, ← enumD_length J2.items 0]; exact Nat.le_of_eq e⟩⟩
      obtain ⟨x, e1, rfl⟩ := enumD_get _ _ _ _ e
      obtain ⟨v, h3, h4⟩ := h2.get e1
      refine ⟨⟨us, v, h1, h3⟩, fun x' H' y => ?_⟩
      obtain ⟨Tt, v', rfl, n, rfl, y⟩ := y
      have := y us h1
      rw [h3] at this; cases this
      rw [Nat.zero_add]
      exact pair_new hr n rfl h4
    · refine .inr ⟨⟨vs, h⟩, q (IteT X.K a) H1 hr1 k1 fun Pz hz S H σ' hr k ok i => ?_⟩
      obtain ⟨us, h1, h2⟩ := lt Pz hz S H σ' hr k ok
      refine ⟨fun d e => ?_, fun e => ⟨us, h1, by rw [← h2.length, ← enumD_length J2.items 0]; exact e⟩⟩
      obtain ⟨x, e1, rfl⟩ := enumD_get _ _ _ _ e
      obtain ⟨v, h3, h4⟩ := h2.get e1
      refine ⟨⟨us, v, h1, h3⟩, fun x' H' y => ?_⟩
      obtain ⟨Tt, v', rfl, n, rfl, y⟩ := y
      have := y us h1
      rw [h3] at this; cases this
      rw [Nat.zero_add]
      exact pair_new hr n rfl h4⟩⟩
theorem walk_zip {it it' : R} {ea eb : Expr} {elts : List Expr} {kk : Nat} {p pos tpos : Pos} (hg : Gl X "zip") (hm : X.mg "zip" = none) (hs : starEach [ea, eb] X.env = (false, eval ea X.env) :: starEach [eb] X.env) (hpl : (backTo pos (starEach [eb] X.env)).any (·.1) = false) (hs2 : starEach [eb] X.env = [(false, eval eb X.env)])
    (h : PE X ea (liftSrc X.K cx it (wpI T c it))) (h' : PE X eb (liftSrc X.K cx it' (wpI T c it'))) : PI X (.Tuple elts kk tpos) (.Call (.Name "zip" p) [ea, eb] [] pos) (liftI X.K cx (.zip it it') (wpI T c (.zip it it'))) :=
  piImp hc (RZ.pi_zipA hg hm (pa_cons h (pa_cons h' pa_nil hs2) hs) hs hpl) fun σ H R ⟨S, σ2, hr, rs, w⟩ => ⟨S, σ2, hr, rs, wpI_mono hc w fun J2 S1 w a H1 hr1 k1 src => ⟨S1, σ2, hr1, rs.keep k1 hr, wpI_mono hc w fun J3 S2 ⟨tu, ok, q⟩ b H2 hr2 k2 src' => by
    have P1 : ∀ b, (OwnA σ2 σ b → srcA it σ2 σ b) → (OwnA σ2 σ b → srcA (.zip it it') σ2 σ b) := fun b z o => .inl (z o)
    have P2 : ∀ b, (OwnA σ2 σ b → srcA it' σ2 σ b) → (OwnA σ2 σ b → srcA (.zip it it') σ2 σ b) := fun b z o => .inr (z o)
    rcases src with ⟨t1, _, lt⟩ | ⟨t1, _, lt⟩
    · rcases src' with ⟨t2, ⟨vs', h'⟩, lt'⟩ | ⟨t2, _, _⟩
      · have lt := lt.keep k2
        obtain ⟨vs, hv, _⟩ := lt (fun b => S2 b = none ∧ H2 b ≠ none) (fun b z1 z2 _ => ⟨z1, z2⟩) S2 H2 σ2 hr2 (fun b z => ⟨z.1, rfl⟩) ok
        refine ⟨a, b, vs, vs', rfl, .inl ⟨hv, h', q (L2.Itz X.K a b) H2 hr2 (k1.trans k2) fun Pz hz S H σ' hr k ok' i => ?_⟩⟩
        obtain ⟨us, h1, h2⟩ := (lt.weak P1 (fun _ _ z => z)) Pz hz S H σ' hr k ok'.1
        obtain ⟨ws, g1, g2⟩ := (lt'.weak P2 (fun _ _ z => z)) Pz hz S H σ' hr k ok'.2
        refine ⟨fun d e => ?_, fun e => ⟨us, ws, h1, g1, by rw [zipD_length] at e; rw [← h2.length, ← g2.length]; omega⟩⟩
        obtain ⟨x, y, e1, e2, rfl⟩ := zipD_get _ _ _ _ e
        obtain ⟨v, h3, h4⟩ := h2.get e1
        obtain ⟨u, g3, g4⟩ := g2.get e2
        refine ⟨⟨us, ws, v, u, h1, g1, h3, g3⟩, fun x' H' y => ?_⟩
        obtain ⟨Tt, v', u', rfl, n, rfl, y1, y2⟩ := y
        have e3 := y1 us h1
        have e4 := y2 ws g1
        rw [h3] at e3; cases e3
        rw [g3] at e4; cases e4
        exact pair_new hr n h4 g4
      · rw [t1, t2] at tu; cases tu
    · rcases src' with ⟨t2, _, _⟩ | ⟨t2, ⟨vs', h'⟩, lt'⟩
      · rw [t1, t2] at tu; cases tu
      · have lt := lt.keep k2
        obtain ⟨vs, hv, _⟩ := lt (fun b => S2 b = none ∧ H2 b ≠ none) (fun b z1 z2 _ => ⟨z1, z2⟩) S2 H2 σ2 hr2 (fun b z => ⟨z.1, rfl⟩) ok
        refine ⟨a, b, vs, vs', rfl, .inr ⟨hv, h', q (RZ.ItzT X.K a b) H2 hr2 (k1.trans k2) fun Pz hz S H σ' hr k ok' i => ?_⟩⟩
        obtain ⟨us, h1, h2⟩ := (lt.weak P1 (fun _ _ z => z)) Pz hz S H σ' hr k ok'.1
        obtain ⟨ws, g1, g2⟩ := (lt'.weak P2 (fun _ _ z => z)) Pz hz S H σ' hr k ok'.2
        refine ⟨fun d e => ?_, fun e => ⟨us, ws, h1, g1, by rw [zipD_length] at e; rw [← h2.length, ← g2.length]; omega⟩⟩
        obtain ⟨x, y, e1, e2, rfl⟩ := zipD_get _ _ _ _ e
        obtain ⟨v, h3, h4⟩ := h2.get e1
        obtain ⟨u, g3, g4⟩ := g2.get e2
        refine ⟨⟨us, ws, v, u, h1, g1, h3, g3⟩, fun x' H' y => ?_⟩
        obtain ⟨Tt, v', u', rfl, n, rfl, y1, y2⟩ := y
        have e3 := y1 us h1
        have e4 := y2 ws g1
        rw [h3] at e3; cases e3
        rw [g3] at e4; cases e4
        exact pair_new hr n h4 g4⟩⟩
end
noncomputable def Tg.is : Tg → List Nat
  | .nm i => [i]
  | .tp is => is
noncomputable def gNames : List Nat → TGs
  | [] => gNil
  | i :: is => gCons (gName i) (gNames is)
noncomputable def tgG (K : Frag) : Tg → TG
  | .nm i => gName i
  | .tp is => gTup K is.length (gNames is)
theorem bindN_ok {K : Frag} {H : Hp} {Q : L2.St → Hp → Prop} (P : List Nat → Sl → L2.St → Prop) (hP : ∀ i is x v σ2 σ, RepV K H x v → P (i :: is) σ2 σ → P is (σ2.set i (some (.d x))) (σ.set i (some v))) :
    ∀ (is : List Nat) (xs : List D) (vs : List V) (σ2 σ2' : Sl) (σ : L2.St), bindN is xs σ2 = some σ2' → RepL K H xs vs → P is σ2 σ → (∀ σ', P [] σ2' σ' → Q σ' H) → gNames is vs σ H Q
  | [], [], vs, σ2, σ2', σ, e, r, p, q => by
    cases e; cases r
    exact ⟨rfl, q _ p⟩
  | [], x :: xs, vs, σ2, σ2', σ, e, r, p, q => by cases e
  | i :: is, [], vs, σ2, σ2', σ, e, r, p, q => by cases e
  | i :: is, x :: xs, vs, σ2, σ2', σ, e, r, p, q => by
    obtain ⟨v, vr, rfl, rv, rr⟩ := r
    exact ⟨v, vr, rfl, bindN_ok P hP is xs vr _ _ _ e rr (hP _ _ _ _ _ _ rv p) q⟩
theorem bindN_len {K : Frag} {H : Hp} : ∀ (is : List Nat) (xs : List D) (vs : List V) (σ2 σ2' : Sl), bindN is xs σ2 = some σ2' → RepL K H xs vs → vs.length = is.length
  | [], [], vs, σ2, σ2', e, r => by cases r; rfl
  | [], x :: xs, vs, σ2, σ2', e, r => by cases e
  | i :: is, [], vs, σ2, σ2', e, r => by cases e
  | i :: is, x :: xs, vs, σ2, σ2', e, r => by
    obtain ⟨v, vr, rfl, rv, rr⟩ := r
    simp [bindN_len is xs vr _ _ e rr]
theorem bindT_ok {K : Frag} {H : Hp} {Q : L2.St → Hp → Prop} {tg : Tg} {x : D} {v : V} {σ2 : Sl} {σ : L2.St} {Z : Sl → Prop} (P : List Nat → Sl → L2.St → Prop) (hP : ∀ i is x v σ2 σ, RepV K H x v → P (i :: is) σ2 σ → P is (σ2.set i (some (.d x))) (σ.set i (some v)))
    (rx : RepV K H x v) (p : P tg.is σ2 σ) (w : bindT tg x σ2 Z) (q : ∀ σ2' σ', P [] σ2' σ' → Z σ2' → Q σ' H) : tgG K tg v σ H Q := by
  unfold bindT at w
  split at w
  · exact q _ _ (hP _ _ _ _ _ _ rx p) w
  · obtain ⟨σ', e, w⟩ := w
    obtain ⟨t, vs, rfl, hs, r⟩ := rx
    exact ⟨t, vs, rfl, hs, bindN_len _ _ _ _ _ e r, bindN_ok P hP _ _ _ _ _ _ e r p fun σ3 p3 => q _ _ p3 w⟩
  · exact w.elim
theorem wipe_get (σ : L2.St) : ∀ (vs : List Nat) (i : Nat), i ∉ vs → (wipe σ vs)[i]? = σ[i]?
  | [], _, _ => rfl
  | v :: vs, i, h => by
    unfold wipe
    rw [List.getElem?_set_ne (fun e : v = i => h (by rw [e]; exact List.mem_cons_self))]
    exact wipe_get σ vs i fun z => h (List.mem_cons_of_mem _ z)
theorem wipe_set (σ : L2.St) {i : Nat} {v : Option V} : ∀ (vs : List Nat), i ∈ vs → wipe (σ.set i v) vs = wipe σ vs
  | [], h => by cases h
  | u :: vs, h => by
    unfold wipe
    by_cases e : i = u
    · subst e
      by_cases m : i ∈ vs
      · rw [wipe_set σ vs m]
      · have key : ∀ (ws : List Nat), (wipe (σ.set i v) ws).set i none = (wipe σ ws).set i none := fun ws => by
          induction ws with
          | nil => unfold wipe; rw [List.set_set]
          | cons w ws ih =>
            unfold wipe
            by_cases ew : w = i
            · subst ew; rw [List.set_set, List.set_set]; exact ih
            · rw [List.set_comm _ _ ew, List.set_comm _ _ ew, ih]
        exact key vs
    · have m : i ∈ vs := (List.mem_cons.mp h).resolve_left e
      rw [wipe_set σ vs m]
theorem wipe_wipe (σ : L2.St) (vs : List Nat) : wipe (wipe σ vs) vs = wipe σ vs := by
  have h : ∀ (ws : List Nat), (∀ i ∈ ws, i ∈ vs) → wipe (wipe σ ws) vs = wipe σ vs := fun ws => by
    induction ws with
    | nil => intro _; rfl
    | cons w ws ih =>
      intro z
      rw [show wipe σ (w :: ws) = (wipe σ ws).set w none from rfl, wipe_set _ _ (z w List.mem_cons_self)]
      exact ih fun i m => z i (List.mem_cons_of_mem _ m)
  exact h vs fun _ z => z
section
variable {X : Cx} {T : Tbl} {c : Nat → List Vx → Hs → VK2 → Prop} {cx : Cls2} (hc : CalMono c)
include hc
theorem lc_ok {tg : Tg} {it elt tst : R} {tt : TT} {te : TE} {wi : TI} {vs : List Nat} (hv : vs = tg.is) (ht : ∀ σ H Q, liftT X.K cx (wpE T c tst) σ H Q → tt σ H Q) (he : ∀ σ H Q, liftE X.K cx (wpE T c elt) σ H Q → te σ H Q)
    (hi : ∀ σ H R, liftI X.K cx it (wpI T c it) σ H R → wi σ H R) {σ : L2.St} {H : Hp} {Q : VK} (w : liftE X.K cx (wpE T c (.comp tg elt it tst)) σ H Q) : tLc wi (tgG X.K tg) tt te vs σ H Q := by
  obtain ⟨S, σ2, hr, rs, w⟩ := w
  refine hi _ _ _ ⟨S, σ2, hr, rs, wpI_mono hc w fun J S1 w JJ H1 hr1 k1 lt Dl hD => ?_⟩
  have rs1 := rs.keep k1 hr
  have lt : ∀ S' H', Rel X.K cx S' H' → Keep S1 S' H1 H' → J.ok σ2 S' → ItG X.K cx JJ J.items S' H' := fun S' H' hr' k' o =>
    lt (fun b => S1 b = none ∧ H1 b ≠ none) (fun b z1 z2 _ => ⟨z1, z2⟩) S' H' σ2 hr' (fun b ⟨z1, z2⟩ => by
      cases q : H1 b with
      | none => exact (z2 q).elim
      | some o => exact ⟨(k'.kp b o q z1).2, (k'.kp b o q z1).1⟩) o
  refine ⟨fun i m H' => m = J.items.length - i ∧ i ≤ J.items.length ∧ ∃ S' acc vacc, Rel X.K cx S' H' ∧ Keep S1 S' H1 H' ∧ H' Dl = some (.lst vacc) ∧ S' Dl = none ∧ RepL X.K H' acc vacc ∧
    compL tg J.ok (fun σ' S' K => wpE T c elt σ' S' (one1 fun y S2 => bx y S2 K)) (fun σ' S' K => wpE T c tst σ' S' (one1 (tstK K))) σ2 (J.items.drop i) acc S' (fun ys S2 => kE X.K cx S H Q [.vl ys] S2), ⟨J.items.length, by simp, Nat.zero_le _, S1, [], [], ?_, ?_, upd_same, hr1.free hD, rfl, by simpa using w⟩, ?_⟩
  · exact hr1.upd0 (hr1.free hD) (tupS_new hD)
  · exact Keep.new hD
  rintro i m H' ⟨rfl, hle, S', acc, vacc, hr', k', hDl, sD, ra, w⟩
  by_cases hlt : i < J.items.length
  · right
    rw [List.drop_eq_getElem_cons hlt] at w
    obtain ⟨ok, w⟩ := w
    obtain ⟨hgo, hy⟩ := (lt S' H' hr' k' ok i).1 _ (List.getElem?_eq_getElem hlt)
    refine ⟨hgo, fun H4 => ∃ S' acc vacc, Rel X.K cx S' H4 ∧ Keep S1 S' H1 H4 ∧ H4 Dl = some (.lst vacc) ∧ S' Dl = none ∧ RepL X.K H4 acc vacc ∧
      compL tg J.ok (fun σ' S' K => wpE T c elt σ' S' (one1 fun y S2 => bx y S2 K)) (fun σ' S' K => wpE T c tst σ' S' (one1 (tstK K))) σ2 (J.items.drop (i + 1)) acc S' (fun ys S2 => kE X.K cx S H Q [.vl ys] S2), fun H4 z => ⟨J.items.length - (i + 1), by omega, rfl, hlt, z⟩, fun x H5 y => ?_⟩
    obtain ⟨hr5, k5, rx⟩ := hy x H5 y
    have k15 := k'.trans k5
    have rs5 := rs1.keep k15 hr1
    obtain ⟨hD5, _⟩ := k5.kp _ _ hDl sD
    have ra5 := ra.keep (k5.tups hr')
    refine bindT_ok (fun rem σa σb => (∀ j ∈ rem, j ∈ vs) ∧ wipe σb vs = wipe σ vs ∧ σa.length = σb.length ∧ ∀ (j : Nat), j ∈ rem ∨ ∀ x : Vx, σa[j]? = some (some x) → ∃ v, σb[j]? = some (some v) ∧ RepX X.K H5 S' x v)
      (fun j js x v σa σb rv ⟨p1, p2, p3, p4⟩ => ⟨fun l z => p1 l (List.mem_cons_of_mem _ z), by rw [wipe_set _ _ (p1 j List.mem_cons_self)]; exact p2, by simp [p3], fun l => ?_⟩) rx ⟨fun j z => by rw [hv]; exact z, wipe_wipe σ vs, by rw [wipe_length]; exact rs5.1, fun j => ?_⟩ w fun σa σb ⟨_, p2, p3, p4⟩ w => ?_
    · by_cases e : l = j
      · subst e
        refine .inr fun y e => ?_
        by_cases hl : l < σa.length
        · rw [List.getElem?_set_self hl] at e
          cases e
          exact ⟨v, by rw [List.getElem?_set_self (p3 ▸ hl)], rv⟩
        · rw [List.getElem?_eq_none (by simpa using Nat.le_of_not_lt hl)] at e
          cases e
      · rcases p4 l with z | z
        · exact .inl ((List.mem_cons.mp z).resolve_left e)
        · refine .inr fun y ey => ?_
          rw [List.getElem?_set_ne (Ne.symm e)] at ey ⊢
          exact z y ey
    · by_cases m : j ∈ vs
      · exact .inl (hv ▸ m)
      · refine .inr fun y e => ?_
        rw [wipe_get _ _ _ m]
        exact rs5.2 j y e
    have rsb : RelX X.K S' H5 σa σb := ⟨p3, fun j y e => (p4 j).elim (fun z => by cases z) fun z => z y e⟩
    refine ⟨p2, ht _ _ _ (stepT hc hr5 rsb w fun b S6 H6 hr6 k6 rs6 w => ?_)⟩
    obtain ⟨hD6, sD6⟩ := k6.kp _ _ hD5 sD
    have ra6 := ra5.keep (k6.tups hr5)
    cases b with
    | false =>
      rw [if_neg (by decide)]
      exact ⟨S6, acc, vacc, hr6, k15.trans k6, hD6, sD6, ra6, w.f rfl⟩
    | true =>
      rw [if_pos rfl]
      refine he _ _ _ (stepE hc hr6 rs6 (w.t rfl) fun y S7 v H7 hr7 k7 rs7 r7 w => ?_)
      obtain ⟨hD7, sD7⟩ := k7.kp _ _ hD6 sD6
      have ra7 := ra6.keep (k7.tups hr6)
      have tk : TupS X.K H7 (upd H7 Dl (.lst (vacc ++ [v]))) := tupS_upd fun o e => by rw [hD7] at e; cases e; rfl
      have k17 := (k15.trans k6).trans k7
      have fin : ∀ (d : D) (S8 : Hs), Rel X.K cx S8 H7 → (∀ b o, H1 b = some o → S7 b = none → S8 b = none) → S8 Dl = none → RepV X.K H7 d v → acc.length < sizeLine → compL tg J.ok (fun σ' S' K => wpE T c elt σ' S' (one1 fun y S2 => bx y S2 K)) (fun σ' S' K => wpE T c tst σ' S' (one1 (tstK K))) σ2 (J.items.drop (i + 1)) (acc ++ [d]) S8 (fun ys S2 => kE X.K cx S H Q [.vl ys] S2) →
          ∃ acc', H7 Dl = some (.lst acc') ∧ acc'.length < sizeLine ∧ ∃ S' acc vacc, Rel X.K cx S' (upd H7 Dl (.lst (acc' ++ [v]))) ∧ Keep S1 S' H1 (upd H7 Dl (.lst (acc' ++ [v]))) ∧ (upd H7 Dl (.lst (acc' ++ [v]))) Dl = some (.lst vacc) ∧ S' Dl = none ∧ RepL X.K (upd H7 Dl (.lst (acc' ++ [v]))) acc vacc ∧
            compL tg J.ok (fun σ' S' K => wpE T c elt σ' S' (one1 fun y S2 => bx y S2 K)) (fun σ' S' K => wpE T c tst σ' S' (one1 (tstK K))) σ2 (J.items.drop (i + 1)) acc S' (fun ys S2 => kE X.K cx S H Q [.vl ys] S2) := fun d S8 hr8 hk sD8 rv hz w =>
        ⟨vacc, hD7, by rw [← ra.length]; exact hz, S8, acc ++ [d], vacc ++ [v], hr8.upd0 sD8 tk, ⟨fun b o e n => ?_, fun b e => ?_⟩, upd_same, sD8, (ra7.keep tk).append (.cons (RepV.keep tk _ _ rv) .nil), w⟩
      · cases y with
        | d y => exact fin _ S7 hr7 (fun b o _ z => z) sD7 r7.1 w.1 w.2
        | vl ds =>
          obtain ⟨a, us, rfl, ha, sa, ru⟩ := r7.1
          obtain ⟨a', ea, na⟩ := r7.2 rfl
          cases ea
          have ne : Dl ≠ a := fun z => by subst z; rw [hD6] at na; cases na
          have w := w a sa
          refine fin (.ref a) (su S7 a (.lst _)) (hr7.box ⟨us, ha, ru⟩) (fun b o e z => ?_) (by rw [su_ne ne]; exact sD7) rfl w.1 w.2
          have nb : b ≠ a := fun z => by
            subst z
            have h1 := (k15.trans k6).up _ na
            rw [e] at h1; cases h1
          rw [su_ne nb]; exact z
        | vd ds =>
          obtain ⟨a, us, rfl, ha, sa, ru⟩ := r7.1
          obtain ⟨a', ea, na⟩ := r7.2 rfl
          cases ea
          have ne : Dl ≠ a := fun z => by subst z; rw [hD6] at na; cases na
          have w := w a sa
          refine fin (.ref a) (su S7 a (.dic _)) (hr7.box ⟨us, ha, ru⟩) (fun b o e z => ?_) (by rw [su_ne ne]; exact sD7) rfl w.1 w.2
          have nb : b ≠ a := fun z => by
            subst z
            have h1 := (k15.trans k6).up _ na
            rw [e] at h1; cases h1
          rw [su_ne nb]; exact z
        | bw ds => exact w.elim
        | fz ds => exact w.elim
        | bd ds => exact w.elim
        | st ds => exact w.elim
      · obtain ⟨h1, h2⟩ := k17.kp b o e n
        refine ⟨?_, hk b o e h2⟩
        rw [upd_ne (fun z => by subst z; rw [e] at hD; cases hD)]
        exact h1
      · refine k17.up b ?_
        by_cases z : b = Dl
        · subst z; rw [upd_same] at e; cases e
        · rw [upd_ne z] at e; exact e
  · have e : i = J.items.length := by omega
    subst e
    rw [List.drop_length] at w
    obtain ⟨ok, x, ex, q⟩ := w
    cases ex
    refine .inl ⟨(lt S' H' hr' k' ok _).2 rfl, q _ _ hr' (k1.trans k') ⟨⟨Dl, vacc, rfl, hDl, sD, ra⟩, fun _ => ⟨Dl, rfl, k1.up _ hD⟩⟩⟩
end
section
variable {X : Cx} {T : Tbl} {c : Nat → List Vx → Hs → VK2 → Prop} {cx : Cls2} (hc : CalMono c)
include hc
theorem ptsImp {ifs : List Expr} {t t' : TT} (h : PTs X ifs t) (i : ∀ σ H Q, t' σ H Q → t σ H Q) : PTs X ifs t' := ⟨fun pins s σ H Q I w => h.run pins s σ H Q I (i _ _ _ w)⟩
theorem pts_tt : PTs X [] (liftT X.K cx (wpE T c (.b true))) := ptsImp hc pts_nil fun σ H Q ⟨S, σ2, hr, rs, w⟩ => w H hr .refl
theorem snd_comp {tg : Tg} {it elt tst : R} {eelt etg eiter : Expr} {ifs : List Expr} {scope : Scope} {own : List (Str × Nat)} {pos : Pos} (hcalm : X.calm = true) (hN : X.N.Nodup) (hi : PI X etg eiter (liftI X.K cx it (wpI T c it))) (ok : BlkOk X.N X.env.scope scope own) (hv : own.map (·.2) = tg.is)
    (hg : ∀ (s : Shared) (H : Hp) (C : Addr) (cl : List (Str × Addr)) (fp : List Addr), PG (X.blk s H scope (compEnvC scope cl C X.env) fp) etg (tgG X.K tg))
    (ht : ∀ (s : Shared) (H : Hp) (C : Addr) (cl : List (Str × Addr)) (fp : List Addr), PTs (X.blk s H scope (compEnvC scope cl C X.env) fp) ifs (liftT X.K cx (wpE T c tst)))
    (he : ∀ (s : Shared) (H : Hp) (C : Addr) (cl : List (Str × Addr)) (fp : List Addr), PE (X.blk s H scope (compEnvC scope cl C X.env) fp) eelt (liftE X.K cx (wpE T c elt)))
    (hs : ∀ x, foldedSetIterable eiter X.env x = pure x) : PE X (.ListComp eelt [⟨etg, eiter, ifs, 0⟩] scope pos) (liftE X.K cx (wpE T c (.comp tg elt it tst))) :=
  peImp (pe_lc hcalm hN hi ok hg ht he hs) fun σ H Q w => lc_ok hc hv (fun _ _ _ h => h) (fun _ _ _ h => h) (fun _ _ _ h => h) w
end
structure Bs where
  pd : Addr → Prop
  hb : Hp
  h0 : Hp
structure Bs.Le (B B' : Bs) : Prop where
  pd : ∀ b, B.pd b → B'.pd b ∧ B'.hb b = B.hb b
  h0 : B'.h0 = B.h0
theorem Bs.Le.refl {B : Bs} : B.Le B := ⟨fun _ h => ⟨h, rfl⟩, rfl⟩
theorem Bs.Le.trans {A B C : Bs} (h : A.Le B) (k : B.Le C) : A.Le C := ⟨fun b z => ⟨(k.pd b (h.pd b z).1).1, (k.pd b (h.pd b z).1).2.trans (h.pd b z).2⟩, k.h0.trans h.h0⟩
structure KeepB (B : Bs) (S : Hs) (H : Hp) : Prop where
  st : ∀ b, B.pd b → S b = none ∧ H b = B.hb b ∧ H b ≠ none
  hn : ∀ b, H b = none → B.h0 b = none
noncomputable def lent : Vx → Bool
  | .bw _ => true
  | .bd _ => true
  | _ => false
structure RelS (B : Bs) (K : Frag) (S : Hs) (H : Hp) (σ2 : Sl) (σ : L2.St) : Prop where
  rx : RelX K S H σ2 σ
  ow : ∀ (i : Nat) (x : Vx) (a : Addr), σ2[i]? = some (some x) → own x = true → σ[i]? = some (some (.ref a)) → ¬ B.pd a ∧ B.h0 a = none ∧ ∀ (j : Nat) (y : Vx), σ2[j]? = some (some y) → own y = true → σ[j]? = some (some (.ref a)) → j = i
  lt : ∀ (i : Nat) (x : Vx) (a : Addr), σ2[i]? = some (some x) → lent x = true → σ[i]? = some (some (.ref a)) → B.pd a
section
variable {K : Frag} {cx : Cls2} {S S' S1 : Hs} {H H' H1 H0 : Hp} {σ2 : Sl} {σ : L2.St} {B B' : Bs}
theorem KeepB.le (l : B.Le B') (k : KeepB B' S H) : KeepB B S H := ⟨fun b z => let ⟨h1, h2⟩ := l.pd b z; let ⟨g1, g2, g3⟩ := k.st b h1; ⟨g1, g2.trans h2, g3⟩, fun b z => by rw [← l.h0]; exact k.hn b z⟩
theorem KeepB.keep (k : Keep S S' H H') (kb : KeepB B S H) : KeepB B S' H' := ⟨fun b z => by
  obtain ⟨h1, h2, h3⟩ := kb.st b z
  cases q : H b with
  | none => exact (h3 q).elim
  | some o =>
    obtain ⟨g1, g2⟩ := k.kp b o q h1
    exact ⟨g2, by rw [g1, ← h2, q], by rw [g1]; simp⟩, fun b z => kb.hn b (k.up b z)⟩
theorem RelS.keep (k : Keep S S' H H') (hr : Rel K cx S H) (r : RelS B K S H σ2 σ) : RelS B K S' H' σ2 σ := ⟨r.rx.keep k hr, r.ow, r.lt⟩
theorem RelX.ownH (r : RelX K S H σ2 σ) {i : Nat} {x : Vx} {a : Addr} (e : σ2[i]? = some (some x)) (o : own x = true) (e' : σ[i]? = some (some (.ref a))) : H a ≠ none ∧ S a = none := by
  obtain ⟨v, h1, h2⟩ := r.2 i x e
  rw [e'] at h1; cases h1
  cases x with
  | vl ds => obtain ⟨b, us, eb, h, n, _⟩ := h2; cases eb; exact ⟨by rw [h]; simp, n⟩
  | vd ds => obtain ⟨b, us, eb, h, n, _⟩ := h2; cases eb; exact ⟨by rw [h]; simp, n⟩
  | _ => cases o
theorem RelS.set {i : Nat} {x : Vx} {v : V} (r : RelS B K S H σ2 σ) (rx : RepX K H S x v) (ho : own x = true → ∀ a, v = .ref a → ¬ B.pd a ∧ B.h0 a = none ∧ ∀ (j : Nat) (y : Vx), j ≠ i → σ2[j]? = some (some y) → own y = true → σ[j]? ≠ some (some (.ref a)))
    (hl : lent x = true → ∀ a, v = .ref a → B.pd a) : RelS B K S H (σ2.set i (some x)) (σ.set i (some v)) := by
  have at_i : ∀ {y : Vx}, (σ2.set i (some x))[i]? = some (some y) → y = x ∧ i < σ2.length := fun {y} e => by
    by_cases hl : i < σ2.length
    · rw [List.getElem?_set_self hl] at e; cases e; exact ⟨rfl, hl⟩
    · rw [List.getElem?_eq_none (by simpa using Nat.le_of_not_lt hl)] at e; cases e
  have len := r.rx.1
  refine ⟨⟨by simp [len], fun j y e => ?_⟩, fun j y a e o e' => ?_, fun j y a e o e' => ?_⟩
  · by_cases z : j = i
    · subst z
      obtain ⟨rfl, hlt⟩ := at_i e
      exact ⟨v, by rw [List.getElem?_set_self (len ▸ hlt)], rx⟩
    · rw [List.getElem?_set_ne (Ne.symm z)] at e ⊢
      exact r.rx.2 j y e
  · by_cases z : j = i
    · subst z
      obtain ⟨rfl, hlt⟩ := at_i e
      rw [List.getElem?_set_self (len ▸ hlt)] at e'
      cases e'
      obtain ⟨h1, h2, h3⟩ := ho o a rfl
      refine ⟨h1, h2, fun k y ek ok ek' => ?_⟩
      by_cases zk : k = j
      · exact zk
      · rw [List.getElem?_set_ne (Ne.symm zk)] at ek ek'
        exact (h3 k y zk ek ok ek').elim
    · rw [List.getElem?_set_ne (Ne.symm z)] at e e'
      obtain ⟨h1, h2, h3⟩ := r.ow j y a e o e'
      refine ⟨h1, h2, fun k w ek ok ek' => ?_⟩
      by_cases zk : k = i
      · subst zk
        obtain ⟨rfl, hlt⟩ := at_i ek
        rw [List.getElem?_set_self (len ▸ hlt)] at ek'
        cases ek'
        exact ((ho ok a rfl).2.2 j y z e o e').elim
      · rw [List.getElem?_set_ne (Ne.symm zk)] at ek ek'
        exact h3 k w ek ok ek'
  · by_cases z : j = i
    · subst z
      obtain ⟨rfl, hlt⟩ := at_i e
      rw [List.getElem?_set_self (len ▸ hlt)] at e'
      cases e'
      exact hl o a rfl
    · rw [List.getElem?_set_ne (Ne.symm z)] at e e'
      exact r.lt j y a e o e'
theorem RelS.setD {i : Nat} {d : D} {v : V} (r : RelS B K S H σ2 σ) (rx : RepV K H d v) : RelS B K S H (σ2.set i (some (.d d))) (σ.set i (some v)) := r.set rx (fun e => by cases e) (fun e => by cases e)
theorem RelS.setN {i : Nat} {x : Vx} {v : V} (kb : KeepB B S H) (r : RelS B K S H σ2 σ) (k : Keep S S1 H H1) (hr : Rel K cx S H) (rx : RepR K H H1 S1 x v) (hl : lent x = false) : RelS B K S1 H1 (σ2.set i (some x)) (σ.set i (some v)) :=
  (r.keep k hr).set rx.1 (fun o a e => by
    obtain ⟨a', e', n⟩ := rx.2 o
    rw [e] at e'; cases e'
    exact ⟨fun p => (kb.st a p).2.2 n, kb.hn a n, fun j y ne ej oj ej' => (r.rx.ownH ej oj ej').1 n⟩) (fun e => by rw [hl] at e; cases e)
theorem stor_of {x : Vx} {P : Prop} (h : stor x P) : lent x = false ∧ P := by
  cases x <;> first | exact ⟨rfl, h⟩ | exact h.elim
noncomputable abbrev WS := Sl → Hs → SK2 → VK2 → SK2 → SK2 → Prop
noncomputable def nxS (K : Frag) (cx : Cls2) (B : Bs) (N : L2.St → Hp → Prop) : SK2 := fun σ2 S => ∀ B' σ H, B.Le B' → Rel K cx S H → RelS B' K S H σ2 σ → KeepB B' S H → N σ H
noncomputable def rtS (K : Frag) (cx : Cls2) (B : Bs) (N : V → Hp → Prop) : VK2 := fun x S => ∀ B' v H, B.Le B' → Rel K cx S H → KeepB B' S H → RepX K H S x v → (own x = true → ∃ a, v = .ref a ∧ B.h0 a = none) → N v H
noncomputable def liftS (K : Frag) (cx : Cls2) (w : WS) : TS := fun D σ H => ∃ B S σ2, Rel K cx S H ∧ RelS B K S H σ2 σ ∧ KeepB B S H ∧ w σ2 S (nxS K cx B D.nx) (rtS K cx B D.rt) (nxS K cx B D.bk) (nxS K cx B D.ct)
theorem nxS.le {N : L2.St → Hp → Prop} (l : B.Le B') {σ2 : Sl} {S : Hs} (h : nxS K cx B N σ2 S) : nxS K cx B' N σ2 S := fun B2 σ H l2 => h B2 σ H (l.trans l2)
theorem rtS.le {N : V → Hp → Prop} (l : B.Le B') {x : Vx} {S : Hs} (h : rtS K cx B N x S) : rtS K cx B' N x S := fun B2 v H l2 hr kb r o => h B2 v H (l.trans l2) hr kb r fun e => let ⟨a, h1, h2⟩ := o e; ⟨a, h1, by rw [← l.h0]; exact h2⟩
end
section
variable {X : Cx} {T : Tbl} {c : Nat → List Vx → Hs → VK2 → Prop} {cx : Cls2}
theorem psImp {st : Stmt} {t t' : TS} (h : PS X st t) (i : ∀ D σ H, t' D σ H → t D σ H) : PS X st t' := ⟨fun pins s σ H D I w => h.run pins s σ H D I (i _ _ _ w)⟩
theorem pssImp {st : List Stmt} {t t' : TS} (h : PSs X st t) (i : ∀ D σ H, t' D σ H → t D σ H) : PSs X st t' := ⟨fun pins s σ H D I w => h.run pins s σ H D I (i _ _ _ w)⟩
variable (hc : CalMono c)
include hc
theorem stepSE {K : Frag} {S : Hs} {H : Hp} {σ2 : Sl} {σ : L2.St} {B : Bs} {r : R} {P : VK2} {Q : VK} (hr : Rel K cx S H) (rs : RelS B K S H σ2 σ) (kb : KeepB B S H) (w : wpE T c r σ2 S (one1 P))
    (h : ∀ x S1 v H1, Rel K cx S1 H1 → Keep S S1 H H1 → RelS B K S1 H1 σ2 σ → KeepB B S1 H1 → RepR K H H1 S1 x v → P x S1 → Q v H1) : liftE K cx (wpE T c r) σ H Q :=
  stepE hc hr rs.rx w fun x S1 v H1 hr1 k1 rs1 r1 p => h x S1 v H1 hr1 k1 (rs.keep k1 hr) (kb.keep k1) r1 p
theorem st_seq {a r : R} {st : Stmt} {rest : List Stmt} (h1 : PS X st (liftS X.K cx (wpS T c a))) (h2 : PSs X rest (liftS X.K cx (wpS T c r))) : PSs X (st :: rest) (liftS X.K cx (wpS T c (.seq a r))) :=
  pssImp (pss_cons h1 h2) fun D σ H ⟨B, S, σ2, hr, rs, kb, w⟩ => ⟨B, S, σ2, hr, rs, kb, wpS_mono hc (fun σ' S' w B' σ1 H1 l hr1 rs1 kb1 => ⟨B', S', σ', hr1, rs1, kb1, wpS_mono hc (fun _ _ => nxS.le l) (fun _ _ => rtS.le l) (fun _ _ => nxS.le l) (fun _ _ => nxS.le l) w⟩)
    (fun _ _ z => z) (fun _ _ z => z) (fun _ _ z => z) w⟩
theorem st_skip : PSs X [] (liftS X.K cx (wpS T c .skip)) := pssImp pss_nil fun D σ H ⟨B, S, σ2, hr, rs, kb, w⟩ => w B σ H .refl hr rs kb
theorem st_pass {pos : Pos} : PS X (.Pass pos) (liftS X.K cx (wpS T c .skip)) := psImp ps_pass fun D σ H ⟨B, S, σ2, hr, rs, kb, w⟩ => w B σ H .refl hr rs kb
theorem st_brk {pos : Pos} : PS X (.Break pos) (liftS X.K cx (wpS T c .brk)) := psImp ps_break fun D σ H ⟨B, S, σ2, hr, rs, kb, w⟩ => w B σ H .refl hr rs kb
theorem st_cnt {pos : Pos} : PS X (.Continue pos) (liftS X.K cx (wpS T c .cnt)) := psImp ps_continue fun D σ H ⟨B, S, σ2, hr, rs, kb, w⟩ => w B σ H .refl hr rs kb
theorem st_never {st : Stmt} : PS X st (liftS X.K cx (wpS T c .never)) := psImp ps_never fun D σ H ⟨B, S, σ2, hr, rs, kb, w⟩ => w
theorem st_nevers {st : List Stmt} : PSs X st (liftS X.K cx (wpS T c .never)) := pssImp pss_never fun D σ H ⟨B, S, σ2, hr, rs, kb, w⟩ => w
theorem st_expr {e : R} {ee : Expr} {pos : Pos} (he : PE X ee (liftE X.K cx (wpE T c e))) (hs : swapsWith ee none pos.line X.env = pure false) : PS X (.Expr ee pos) (liftS X.K cx (wpS T c (.expr e))) :=
  psImp (ps_expr he hs) fun D σ H ⟨B, S, σ2, hr, rs, kb, w⟩ => stepSE hc hr rs kb w fun x S1 v H1 hr1 k1 rs1 kb1 r1 w => w B σ H1 .refl hr1 rs1 kb1
theorem st_set {i : Nat} {e : R} {st : Stmt} {te : TE} (h : PS X st (tAsg te (gName i))) (ht : ∀ σ H Q, liftE X.K cx (wpE T c e) σ H Q → te σ H Q) : PS X st (liftS X.K cx (wpS T c (.set i e))) :=
  psImp h fun D σ H ⟨B, S, σ2, hr, rs, kb, w⟩ => ht _ _ _ (stepSE hc hr rs kb w fun x S1 v H1 hr1 k1 rs1 kb1 r1 w => by
    obtain ⟨hl, w⟩ := stor_of w
    exact w B _ H1 .refl hr1 (rs.setN kb k1 hr r1 hl) kb1)
noncomputable def gSeq (K : Frag) (n : Nat) (t : TGs) : TG := fun v σ H Q => ∃ a xs, v = .ref a ∧ (SqL K H a xs ∨ SqT K H a xs) ∧ xs.length = n ∧ t xs σ H Q
omit hc in
theorem pg_seq {es : List Expr} {k : Nat} {t : TGs} {n : Nat} {pos : Pos} (hcalm : X.calm = true) (h : PGs X es t) (hn : (assignEach es X.env).length = n) (hst : (assignEach es X.env).findIdx? (·.1) = none) : PG X (.Tuple es k pos) (gSeq X.K n t) :=
  ⟨fun pins s σ H v u Q I r ⟨a, xs, e, hq, hl, hw⟩ => by
    rcases hq with hq | hq
    · exact (pg_lst hcalm h hn hst).run pins s σ H v u Q I r ⟨a, xs, e, hq, hl, hw⟩
    · exact (pg_tup hcalm h hn hst).run pins s σ H v u Q I r ⟨a, xs, e, hq, hl, hw⟩⟩
theorem st_setT {is : List Nat} {e : R} {st : Stmt} (h : PS X st (tAsg (liftE X.K cx (wpE T c e)) (gSeq X.K is.length (gNames is)))) : PS X st (liftS X.K cx (wpS T c (.setT is e))) :=
  psImp h fun D σ H ⟨B, S, σ2, hr, rs, kb, w⟩ => stepSE hc hr rs kb w fun x S1 v H1 hr1 k1 rs1 kb1 r1 w => by
    obtain ⟨cn, ⟨ds, e1, σ', e2, w⟩, hcn⟩ := view_of hr1 r1.1 w
    have key : ∀ (a : Addr) (vs : List V), v = .ref a → (SqL X.K H1 a vs ∨ SqT X.K H1 a vs) → RepL X.K H1 ds vs → gSeq X.K is.length (gNames is) v σ H1 D.nx := fun a vs ev hs r =>
      ⟨a, vs, ev, hs, bindN_len _ _ _ _ _ e2 r, bindN_ok (fun _ σa σb => RelS B X.K S1 H1 σa σb) (fun i is x v σa σb rv p => p.setD rv) _ _ _ _ _ _ e2 r rs1 fun σb p => w B σb H1 .refl hr1 p kb1⟩
    cases cn with
    | l ds' => cases e1; obtain ⟨p, vs, ev, h, r⟩ := hcn; exact key p vs ev (.inl (SqL.of h)) r
    | f ds' => cases e1; obtain ⟨p, vs, ev, h, r⟩ := hcn; exact key p vs ev (.inl h) r
    | t ds' => cases e1; obtain ⟨p, vs, ev, h, r⟩ := hcn; exact key p vs ev (.inr h) r
    | _ => cases e1
end
theorem lend_idem (x : Vx) : lendX (lendX x) = lendX x := by cases x <;> rfl
theorem lend_own {x : Vx} (h : own (lendX x) = true) : lendX x = x := by cases x <;> first | rfl | cases h
theorem lend_lb (x : Vx) : lentB (lendX x) = lentB x := by cases x <;> rfl
theorem RepX.lend {K : Frag} {H : Hp} {S : Hs} {x : Vx} {v : V} (r : RepX K H S x v) : RepX K H S (lendX x) v := by cases x <;> exact r
theorem dem_itv (i : Nat) (σ2 : Sl) : (dem (.itv i) σ2).length = σ2.length ∧ (∀ (j : Nat) (y : Vx), (dem (.itv i) σ2)[j]? = some (some y) → ∃ x, σ2[j]? = some (some x) ∧ (y = lendX x ∨ (j ≠ i ∧ y = x))) ∧ ∀ (j : Nat) (x : Vx), σ2[j]? = some (some x) → ∃ y, (dem (.itv i) σ2)[j]? = some (some y) ∧ (y = x ∨ y = lendX x) := by
  show (match σ2[i]? with | some (some x) => σ2.set i (some (lendX x)) | _ => σ2 : Sl).length = _ ∧ (∀ (j : Nat) (y : Vx), (match σ2[i]? with | some (some x) => σ2.set i (some (lendX x)) | _ => σ2 : Sl)[j]? = _ → _) ∧ ∀ (j : Nat) (x : Vx), _ → ∃ y, (match σ2[i]? with | some (some x) => σ2.set i (some (lendX x)) | _ => σ2 : Sl)[j]? = _ ∧ _
  split
  · rename_i x0 e0
    have hi := (List.getElem?_eq_some_iff.mp e0).1
    refine ⟨by simp, fun j y e => ?_, fun j x e => ?_⟩
    · by_cases z : j = i
      · subst z
        rw [List.getElem?_set_self hi] at e; cases e
        exact ⟨x0, e0, .inl rfl⟩
      · rw [List.getElem?_set_ne (Ne.symm z)] at e
        exact ⟨y, e, .inr ⟨z, rfl⟩⟩
    · by_cases z : j = i
      · subst z
        rw [e0] at e; cases e
        exact ⟨_, by rw [List.getElem?_set_self hi], .inr rfl⟩
      · exact ⟨x, by rw [List.getElem?_set_ne (Ne.symm z)]; exact e, .inl rfl⟩
  · rename_i h
    refine ⟨rfl, fun j y e => ⟨y, e, ?_⟩, fun j x e => ⟨x, e, .inl rfl⟩⟩
    by_cases z : j = i
    · subst z; exact (h _ e).elim
    · exact .inr ⟨z, rfl⟩
theorem dem_sub : ∀ (it : R) (σ2 : Sl), (dem it σ2).length = σ2.length ∧ (∀ (j : Nat) (y : Vx), (dem it σ2)[j]? = some (some y) → ∃ x, σ2[j]? = some (some x) ∧ (y = x ∨ y = lendX x)) ∧ ∀ (j : Nat) (x : Vx), σ2[j]? = some (some x) → ∃ y, (dem it σ2)[j]? = some (some y) ∧ (y = x ∨ y = lendX x) := by
  intro it
  induction it with
  | itv i => exact fun σ2 => ⟨(dem_itv i σ2).1, fun j y e => let ⟨x, e', h⟩ := (dem_itv i σ2).2.1 j y e; ⟨x, e', h.elim .inr fun z => .inl z.2⟩, (dem_itv i σ2).2.2⟩
  | enu a ih => exact ih
  | zip a b iha ihb =>
    intro σ2
    obtain ⟨a1, a2, a3⟩ := iha σ2
    obtain ⟨b1, b2, b3⟩ := ihb (dem a σ2)
    refine ⟨b1.trans a1, fun j y e => ?_, fun j x e => ?_⟩
    · obtain ⟨x1, e1, h1⟩ := b2 j y e
      obtain ⟨x0, e0, h0⟩ := a2 j x1 e1
      refine ⟨x0, e0, ?_⟩
      rcases h1 with rfl | rfl
      · exact h0
      · rcases h0 with rfl | rfl
        · exact .inr rfl
        · exact .inr (lend_idem _)
    · obtain ⟨x1, e1, h1⟩ := a3 j x e
      obtain ⟨x2, e2, h2⟩ := b3 j x1 e1
      refine ⟨x2, e2, ?_⟩
      rcases h2 with rfl | rfl
      · exact h1
      · rcases h1 with rfl | rfl
        · exact .inr rfl
        · exact .inr (lend_idem _)
  | _ => exact fun σ2 => ⟨rfl, fun j y e => ⟨y, e, .inl rfl⟩, fun j x e => ⟨x, e, .inl rfl⟩⟩
theorem dem_own {it : R} {σ2 : Sl} {j : Nat} {y : Vx} (e : (dem it σ2)[j]? = some (some y)) (o : own y = true) : σ2[j]? = some (some y) := by
  obtain ⟨x, e', h⟩ := (dem_sub it σ2).2.1 j y e
  rcases h with rfl | rfl
  · exact e'
  · rw [lend_own o]; exact e'
noncomputable def Dist (σ2 : Sl) (σ : L2.St) : Prop := ∀ (i j : Nat) (x y : Vx) (b : Addr), σ2[j]? = some (some y) → own y = true → σ[j]? = some (some (.ref b)) → σ2[i]? = some (some x) → lentB x = true → σ[i]? = some (some (.ref b)) → i = j
theorem srcA_dem (a : R) {σ2 : Sl} {σ : L2.St} {b : Addr} : ∀ (it : R), srcA it σ2 σ b → srcA it (dem a σ2) σ b := by
  intro it
  induction it with
  | itv i =>
    rintro ⟨x, e, l, e'⟩
    obtain ⟨y, e2, h⟩ := (dem_sub a σ2).2.2 i x e
    refine ⟨y, e2, ?_, e'⟩
    rcases h with rfl | rfl
    · exact l
    · rw [lend_lb]; exact l
  | enu a ih => exact ih
  | zip a b iha ihb => exact fun h => h.elim (fun z => .inl (iha z)) fun z => .inr (ihb z)
  | _ => exact fun h => h.elim
theorem Dist.dem (a : R) {σ2 : Sl} {σ : L2.St} (h : Dist σ2 σ) : Dist (dem a σ2) σ := fun i j x y b ej oj ej' ei li ei' => by
  obtain ⟨x0, e0, h0⟩ := (dem_sub a σ2).2.1 i x ei
  refine h i j x0 y b (dem_own ej oj) oj ej' e0 ?_ ei'
  rcases h0 with rfl | rfl
  · exact li
  · rwa [lend_lb] at li
theorem dem_src {σ : L2.St} {b : Addr} : ∀ (it : R) (σ2 : Sl), Dist σ2 σ → srcA it σ2 σ b → ¬ OwnA (dem it σ2) σ b := by
  intro it
  induction it with
  | itv i =>
    rintro σ2 d ⟨x, e, l, e'⟩ ⟨j, y, ej, oj, ej'⟩
    have ij := d i j x y b (dem_own ej oj) oj ej' e l e'
    subst ij
    obtain ⟨x0, e0, h0⟩ := (dem_itv i σ2).2.1 i y ej
    rcases h0 with rfl | ⟨z, _⟩
    · rw [e] at e0; cases e0
      cases x <;> first | cases l; done | cases oj
    · exact z rfl
  | enu a ih => exact ih
  | zip a a' iha ihb =>
    rintro σ2 d (h | h) ⟨j, y, ej, oj, ej'⟩
    · exact iha σ2 d h ⟨j, y, dem_own ej oj, oj, ej'⟩
    · exact ihb (DL.dem a σ2) (d.dem a) (srcA_dem a a' h) ⟨j, y, ej, oj, ej'⟩
  | _ => exact fun σ2 d h => h.elim
theorem RelS.dist {B : Bs} {K : Frag} {S : Hs} {H : Hp} {σ2 : Sl} {σ : L2.St} (r : RelS B K S H σ2 σ) : Dist σ2 σ := fun i j x y b ej oj ej' ei li ei' => by
  obtain ⟨h1, h2, h3⟩ := r.ow j y b ej oj ej'
  cases x with
  | vl ds => exact h3 i _ ei rfl ei'
  | bw ds => exact (h1 (r.lt i _ b ei rfl ei')).elim
  | _ => cases li
noncomputable def loopB (B : Bs) (S1 : Hs) (H1 : Hp) (σ2 : Sl) (σ : L2.St) : Bs := ⟨fun b => S1 b = none ∧ H1 b ≠ none ∧ ¬ OwnA σ2 σ b, H1, B.h0⟩
section
variable {K : Frag} {cx : Cls2} {S1 : Hs} {H1 : Hp} {σ2 : Sl} {σ : L2.St} {B : Bs}
theorem loop_le (it : R) (kb : KeepB B S1 H1) (rs : RelS B K S1 H1 σ2 σ) : B.Le (loopB B S1 H1 (dem it σ2) σ) := ⟨fun b z => by
  obtain ⟨h1, h2, h3⟩ := kb.st b z
  exact ⟨⟨h1, h3, fun ⟨i, x, e, o, e'⟩ => (rs.ow i x b (dem_own e o) o e').1 z⟩, h2⟩, rfl⟩
theorem loop_kb (it : R) (kb : KeepB B S1 H1) : KeepB (loopB B S1 H1 (dem it σ2) σ) S1 H1 := ⟨fun b z => ⟨z.1, rfl, z.2.1⟩, kb.hn⟩
theorem loop_rs (it : R) (rs : RelS B K S1 H1 σ2 σ) : RelS (loopB B S1 H1 (dem it σ2) σ) K S1 H1 (dem it σ2) σ := by
  refine ⟨⟨(dem_sub it σ2).1.trans rs.rx.1, fun i y e => ?_⟩, fun i y a e o e' => ⟨fun z => z.2.2 ⟨i, y, e, o, e'⟩, (rs.ow i y a (dem_own e o) o e').2.1, fun j w ej oj ej' => (rs.ow i y a (dem_own e o) o e').2.2 j w (dem_own ej oj) oj ej'⟩, fun i y a e l e' => ?_⟩
  · obtain ⟨x, e0, h⟩ := (dem_sub it σ2).2.1 i y e
    obtain ⟨v, h1, h2⟩ := rs.rx.2 i x e0
    refine ⟨v, h1, ?_⟩
    rcases h with rfl | rfl
    · exact h2
    · exact h2.lend
  · obtain ⟨x, e0, h⟩ := (dem_sub it σ2).2.1 i y e
    obtain ⟨v, h1, h2⟩ := rs.rx.2 i x e0
    rw [e'] at h1; cases h1
    have hx : lent x = true ∨ own x = true := by
      rcases h with rfl | rfl
      · exact .inl l
      · cases x <;> first | exact .inl rfl | exact .inr rfl | cases l
    have hz : S1 a = none ∧ H1 a ≠ none := by
      rcases h with rfl | rfl
      · cases y with
        | bw ds => obtain ⟨p, us, ep, hp, np, _⟩ := h2; cases ep; exact ⟨np, by rw [hp]; simp⟩
        | bd ds => obtain ⟨p, us, ep, hp, np, _⟩ := h2; cases ep; exact ⟨np, by rw [hp]; simp⟩
        | _ => cases l
      · cases x with
        | vl ds => obtain ⟨p, us, ep, hp, np, _⟩ := h2; cases ep; exact ⟨np, by rw [hp]; simp⟩
        | bw ds => obtain ⟨p, us, ep, hp, np, _⟩ := h2; cases ep; exact ⟨np, by rw [hp]; simp⟩
        | bd ds => obtain ⟨p, us, ep, hp, np, _⟩ := h2; cases ep; exact ⟨np, by rw [hp]; simp⟩
        | _ => cases l
    refine ⟨hz.1, hz.2, fun ⟨j, w, ej, oj, ej'⟩ => ?_⟩
    obtain ⟨g1, g2, g3⟩ := rs.ow j w a (dem_own ej oj) oj ej'
    rcases hx with hx | hx
    · exact g1 (rs.lt i x a e0 hx e')
    · have ij := g3 i x e0 hx e'
      subst ij
      rw [ej] at e; cases e
      cases y <;> first | cases l; done | cases oj
end
section
variable {X : Cx} {T : Tbl} {c : Nat → List Vx → Hs → VK2 → Prop} {cx : Cls2} (hc : CalMono c)
include hc
theorem st_iff {k a r : R} {ek : Expr} {ea er : List Stmt} {pos : Pos} (hk : PT X ek (liftT X.K cx (wpE T c k))) (ha : PSs X ea (liftS X.K cx (wpS T c a))) (hr : PSs X er (liftS X.K cx (wpS T c r))) : PS X (.If ek ea er pos) (liftS X.K cx (wpS T c (.iff k a r))) :=
  psImp (ps_if hk ha hr) fun D σ H ⟨B, S, σ2, hr, rs, kb, w⟩ => stepT hc hr rs.rx w fun b S1 H1 hr1 k1 rs1 w => by
    cases b with
    | true => rw [if_pos rfl]; exact ⟨B, S1, σ2, hr1, rs.keep k1 hr, kb.keep k1, w.t rfl⟩
    | false => rw [if_neg (by decide)]; exact ⟨B, S1, σ2, hr1, rs.keep k1 hr, kb.keep k1, w.f rfl⟩
theorem st_whl {k a : R} {ek : Expr} {ea : List Stmt} {pos : Pos} (hp : PassesOwn (model X.prog X.w) X.A X.env X.xe) (hk : PT X ek (liftT X.K cx (wpE T c k))) (ha : PSs X ea (liftS X.K cx (wpS T c a))) : PS X (.While ek ea [] pos) (liftS X.K cx (wpS T c (.whl k a))) :=
  psImp (ps_while hp hk ha) fun D σ H ⟨B, S, σ2, hr, rs, kb, n, w⟩ => by
    refine ⟨fun m σ' H' => ∃ B2 S' σ2', B.Le B2 ∧ Rel X.K cx S' H' ∧ RelS B2 X.K S' H' σ2' σ' ∧ KeepB B2 S' H' ∧ whlN (fun σ' S' K => wpE T c k σ' S' (one1 (tstK K))) (fun k σ' S' => wpS T c a σ' S' k (rtS X.K cx B D.rt) (nxS X.K cx B D.nx) k) (nxS X.K cx B D.nx) m σ2' S',
      ⟨n, B, S, σ2, .refl, hr, rs, kb, w⟩, ?_⟩
    rintro m σ' H' ⟨B2, S', σ2', l, hr, rs, kb, w⟩
    cases m with
    | zero => exact w.elim
    | succ m =>
      refine stepT hc hr rs.rx w fun b S1 H1 hr1 k1 rs1 w => ?_
      cases b with
      | true =>
        rw [if_pos rfl]
        refine ⟨fun σ' H' => ∃ B2 S' σ2', B.Le B2 ∧ Rel X.K cx S' H' ∧ RelS B2 X.K S' H' σ2' σ' ∧ KeepB B2 S' H' ∧ whlN (fun σ' S' K => wpE T c k σ' S' (one1 (tstK K))) (fun k σ' S' => wpS T c a σ' S' k (rtS X.K cx B D.rt) (nxS X.K cx B D.nx) k) (nxS X.K cx B D.nx) m σ2' S', fun σ' H' z => ⟨m, Nat.lt_succ_self m, z⟩, B2, S1, σ2', hr1, rs.keep k1 hr, kb.keep k1, ?_⟩
        exact wpS_mono hc (fun σ3 S3 z B3 σ4 H4 l3 hr3 rs3 kb3 => ⟨B3, S3, σ3, l.trans l3, hr3, rs3, kb3, z⟩) (fun _ _ => rtS.le l) (fun _ _ => nxS.le l) (fun σ3 S3 z B3 σ4 H4 l3 hr3 rs3 kb3 => ⟨B3, S3, σ3, l.trans l3, hr3, rs3, kb3, z⟩) (w.t rfl)
      | false =>
        rw [if_neg (by decide)]
        exact w.f rfl B2 σ' H1 l hr1 (rs.keep k1 hr) (kb.keep k1)
theorem st_for {tg : Tg} {it a : R} {etg eit : Expr} {ea : List Stmt} {pos : Pos} (hp : PassesOwn (model X.prog X.w) X.A X.env X.xe) (hcalm : X.calm = true) (hi : PI X etg eit (liftI X.K cx it (wpI T c it))) (hg : PG X etg (tgG X.K tg)) (ha : PSs X ea (liftS X.K cx (wpS T c a)))
    (hs : ∀ x, foldedSetIterable eit X.env x = pure x) : PS X (.For etg eit ea [] pos) (liftS X.K cx (wpS T c (.for tg it a))) :=
  psImp (ps_for hp hcalm hi hg ha hs) fun D σ H ⟨B, S, σ2, hr, rs, kb, w⟩ => ⟨S, σ2, hr, rs.rx, wpI_mono hc w fun J S1 w JJ H1 hr1 k1 lt => by
    have rs1 := rs.keep k1 hr
    have kb1 := kb.keep k1
    have l1 := loop_le it kb1 rs1
    have lt : ∀ S' H' σ', Rel X.K cx S' H' → KeepB (loopB B S1 H1 (dem it σ2) σ) S' H' → J.ok σ' S' → ItG X.K cx JJ J.items S' H' := fun S' H' σ' hr' k' o =>
      lt (loopB B S1 H1 (dem it σ2) σ).pd (fun b z1 z2 p => ⟨z1, z2, fun ⟨i, x, e, ow, e'⟩ => dem_src it σ2 rs1.dist (p ⟨i, x, dem_own e ow, ow, e'⟩) ⟨i, x, e, ow, e'⟩⟩) S' H' σ' hr' (fun b z => ⟨(k'.st b z).1, (k'.st b z).2.1⟩) o
    refine ⟨fun i m σ' H' => ∃ B2 S' σ2', (loopB B S1 H1 (dem it σ2) σ).Le B2 ∧ Rel X.K cx S' H' ∧ RelS B2 X.K S' H' σ2' σ' ∧ KeepB B2 S' H' ∧ m = J.items.length - i ∧ i ≤ J.items.length ∧
      forL tg J.ok (fun k σ' S' => wpS T c a σ' S' k (rtS X.K cx B D.rt) (nxS X.K cx B D.nx) k) (nxS X.K cx B D.nx) (J.items.drop i) σ2' S',
      ⟨J.items.length, _, S1, dem it σ2, .refl, hr1, loop_rs it rs1, loop_kb it kb1, rfl, Nat.zero_le _, w⟩, ?_⟩
    rintro i m σ' H' ⟨B2, S', σ2', l2, hr', rs', kb', rfl, hle, w⟩
    have l := l1.trans l2
    by_cases hlt : i < J.items.length
    · right
      rw [List.drop_eq_getElem_cons hlt] at w
      obtain ⟨ok, w⟩ := w
      obtain ⟨hgo, hy⟩ := (lt S' H' σ2' hr' (kb'.le l2) ok i).1 _ (List.getElem?_eq_getElem hlt)
      refine ⟨hgo, fun σ' H' => ∃ B2 S' σ2', (loopB B S1 H1 (dem it σ2) σ).Le B2 ∧ Rel X.K cx S' H' ∧ RelS B2 X.K S' H' σ2' σ' ∧ KeepB B2 S' H' ∧
        forL tg J.ok (fun k σ' S' => wpS T c a σ' S' k (rtS X.K cx B D.rt) (nxS X.K cx B D.nx) k) (nxS X.K cx B D.nx) (J.items.drop (i + 1)) σ2' S', fun σ' H' ⟨B2, S', σ2', h1, h2, h3, h4, h5⟩ => ⟨J.items.length - (i + 1), by omega, B2, S', σ2', h1, h2, h3, h4, rfl, hlt, h5⟩, fun x H5 y => ?_⟩
      obtain ⟨hr5, k5, rx⟩ := hy x H5 y
      refine bindT_ok (fun _ σa σb => RelS B2 X.K S' H5 σa σb) (fun i is x v σa σb rv p => p.setD rv) rx (rs'.keep k5 hr') w fun σa σb rsa w => ?_
      exact ⟨B2, S', σa, hr5, rsa, kb'.keep k5, wpS_mono hc (fun σ3 S3 z B3 σ4 H4 l3 hr3 rs3 kb3 => ⟨B3, S3, σ3, l2.trans l3, hr3, rs3, kb3, z⟩) (fun _ _ => rtS.le l) (fun _ _ => nxS.le l) (fun σ3 S3 z B3 σ4 H4 l3 hr3 rs3 kb3 => ⟨B3, S3, σ3, l2.trans l3, hr3, rs3, kb3, z⟩) w⟩
    · have e : i = J.items.length := by omega
      subst e
      rw [List.drop_length] at w
      exact .inl ⟨(lt S' H' σ2' hr' (kb'.le l2) w.1 _).2 rfl, w.2 B2 σ' H' l hr' rs' kb'⟩⟩
theorem st_ret {e : R} {ee : Expr} {pos : Pos} (he : PE X ee (liftE X.K cx (wpE T c e))) : PS X (.Return (some ee) pos) (liftS X.K cx (wpS T c (.ret e))) :=
  psImp (ps_ret he) fun D σ H ⟨B, S, σ2, hr, rs, kb, w⟩ => stepSE hc hr rs kb w fun x S1 v H1 hr1 k1 rs1 kb1 r1 w => by
    obtain ⟨hl, w⟩ := stor_of w
    exact w B v H1 .refl hr1 kb1 r1.1 fun o => let ⟨a, e, n⟩ := r1.2 o; ⟨a, e, kb.hn a n⟩
theorem st_retn {pos : Pos} : PS X (.Return none pos) (liftS X.K cx (wpS T c .retn)) := psImp ps_retN fun D σ H ⟨B, S, σ2, hr, rs, kb, w⟩ => w B _ H .refl hr kb rfl fun e => by cases e
theorem st_retv {i : Nat} {x : Str} {pos p : Pos} (hN : X.N[i]? = some x) (hv : Vis X.env.scope x) (h1 : (x == ("__debug__" : Str)) = false) (h2 : (x == ("__classdict__" : Str)) = false) : PS X (.Return (some (.Name x p)) pos) (liftS X.K cx (wpS T c (.retv i))) :=
  psImp (ps_ret (pe_var hN hv h1 h2)) fun D σ H ⟨B, S, σ2, hr, rs, kb, x, e, w⟩ => by
    obtain ⟨v, e', r⟩ := rs.rx.2 i x e
    obtain ⟨hl, w⟩ := stor_of w
    refine ⟨v, e', w B v H .refl hr kb r fun o => ?_⟩
    cases x with
    | vl ds => obtain ⟨a, us, rfl, _⟩ := r; exact ⟨a, rfl, (rs.ow i _ a e rfl e').2.1⟩
    | vd ds => obtain ⟨a, us, rfl, _⟩ := r; exact ⟨a, rfl, (rs.ow i _ a e rfl e').2.1⟩
    | _ => cases o
end
section
variable {K : Frag} {cx : Cls2} {S : Hs} {H : Hp}
theorem lock_on {a : Addr} {kvs : List (D × D)} (hr : Rel K cx S H) (e : S a = some (.dic kvs)) : ∃ ks, H a = some (.dK ks) ∧ ∀ od, Rel K cx (su S a (.fdc kvs (.frz od (.dK ks)))) (upd H a (.frz od (.dK ks))) ∧ Keep S (su S a (.fdc kvs (.frz od (.dK ks)))) H (upd H a (.frz od (.dK ks))) := by
  obtain ⟨ks, h, r⟩ := hr a _ e
  refine ⟨ks, h, fun od => ?_⟩
  have t : TupS K H (upd H a (.frz od (.dK ks))) := tupS_upd fun o z => by rw [h] at z; cases z; rfl
  refine ⟨hr.upd1 t ⟨upd_same, od, ks, rfl, r.keep t⟩, fun b o z n => ?_, fun b z => ?_⟩
  · have ne : b ≠ a := fun q => by subst q; rw [e] at n; cases n
    rw [upd_ne ne, su_ne ne]
    exact ⟨z, n⟩
  · by_cases q : b = a
    · subst q; rw [upd_same] at z; cases z
    · rwa [upd_ne q] at z
theorem lock_off {a : Addr} {kvs : List (D × D)} {od : Obj} {ks : List (Key × V)} (hr : Rel K cx S H) (e : S a = some (.fdc kvs (.frz od (.dK ks)))) : H a = some (.frz od (.dK ks)) ∧ Rel K cx (su S a (.dic kvs)) (upd H a (.dK ks)) ∧ Keep S (su S a (.dic kvs)) H (upd H a (.dK ks)) := by
  obtain ⟨h, o, ks', e', r⟩ := hr a _ e
  cases e'
  have t : TupS K H (upd H a (.dK ks)) := tupS_upd fun o z => by rw [h] at z; cases z; rfl
  refine ⟨h, hr.upd1 t ⟨ks, upd_same, r.keep t⟩, fun b o z n => ?_, fun b z => ?_⟩
  · have ne : b ≠ a := fun q => by subst q; rw [e] at n; cases n
    rw [upd_ne ne, su_ne ne]
    exact ⟨z, n⟩
  · by_cases q : b = a
    · subst q; rw [upd_same] at z; cases z
    · rwa [upd_ne q] at z
end
section
variable {X : Cx} {T : Tbl} {c : Nat → List Vx → Hs → VK2 → Prop} {cx : Cls2} (hc : CalMono c)
include hc
theorem snd_lockE {e : R} {ee : Expr} (he : PE X ee (liftE X.K cx (wpE T c e))) : PE X ee (liftE X.K cx (wpE T c (.lockE e))) :=
  peImp (pe_lock he) fun σ H Q ⟨S, σ2, hr, rs, a, kvs, ea, w⟩ => by
    obtain ⟨ks, h, lk⟩ := lock_on hr ea
    refine ⟨a, .dK ks, h, by simp [Mut], fun od => ?_⟩
    obtain ⟨hr0, k0⟩ := lk od
    refine ⟨_, σ2, hr0, rs.keep k0 hr, wpE_mono hc (w _) fun xs S' ⟨e1, x, ex, q⟩ => ⟨x, ex, fun v H' hr' k' r' => ?_⟩⟩
    obtain ⟨h1, hr1, k1⟩ := lock_off hr' e1
    exact ⟨h1, q v _ hr1 ((k0.trans k').trans k1) ⟨r'.1.keep k1 hr', fun o => let ⟨b, e2, n⟩ := r'.2 o; ⟨b, e2, k0.up b n⟩⟩⟩
theorem st_lock {st : R} {es : Stmt} (h : PS X es (liftS X.K cx (wpS T c st))) : PS X es (liftS X.K cx (wpS T c (.lock st))) :=
  psImp (ps_lock h) fun D σ H ⟨B, S, σ2, hr, rs, kb, a, kvs, ea, w⟩ => by
    obtain ⟨ks, h, lk⟩ := lock_on hr ea
    refine ⟨a, .dK ks, h, by simp [Mut], fun od => ?_⟩
    obtain ⟨hr0, k0⟩ := lk od
    refine ⟨B, _, σ2, hr0, rs.keep k0 hr, kb.keep k0, wpS_mono hc (fun σ' S' ⟨e1, q⟩ B' σ H' l hr' rs' kb' => ?_) (fun x S' ⟨e1, q⟩ B' v H' l hr' kb' r' o => ?_) (fun σ' S' ⟨e1, q⟩ B' σ H' l hr' rs' kb' => ?_) (fun σ' S' ⟨e1, q⟩ B' σ H' l hr' rs' kb' => ?_) (w _)⟩
    · obtain ⟨h1, hr1, k1⟩ := lock_off hr' e1
      exact ⟨h1, q B' σ _ l hr1 (rs'.keep k1 hr') (kb'.keep k1)⟩
    · obtain ⟨h1, hr1, k1⟩ := lock_off hr' e1
      exact ⟨h1, q B' v _ l hr1 (kb'.keep k1) (r'.keep k1 hr') o⟩
    · obtain ⟨h1, hr1, k1⟩ := lock_off hr' e1
      exact ⟨h1, q B' σ _ l hr1 (rs'.keep k1 hr') (kb'.keep k1)⟩
    · obtain ⟨h1, hr1, k1⟩ := lock_off hr' e1
      exact ⟨h1, q B' σ _ l hr1 (rs'.keep k1 hr') (kb'.keep k1)⟩
omit hc in
theorem dicR_get {K : Frag} {H : Hp} : ∀ {kvs : List (D × D)} {ks : List (Key × V)} {i : Nat} {p : D × D}, DicR K H kvs ks → kvs[i]? = some p → ∃ k v, ks[i]? = some (k, v) ∧ KeyR p.1 k ∧ RepV K H p.2 v
  | _, _, i, p, .nil, e => by simp at e
  | q :: kvs, (k, v) :: ks, 0, p, .cons h t, e => by simp at e; subst e; exact ⟨k, v, rfl, h.1, h.2⟩
  | q :: kvs, b :: ks, i + 1, p, .cons h t, e => by
    obtain ⟨k, v, h1, h2⟩ := dicR_get (i := i) t (by simpa using e)
    exact ⟨k, v, by simpa using h1, h2⟩
omit hc in
theorem keyR_rep {K : Frag} {H : Hp} {d : D} {k : Key} (h : KeyR d k) : RepV K H d (kV k) := by
  cases d <;> first | (cases h; rfl) | exact h.elim
theorem walk_itk {a : R} {ea tg : Expr} (ha : PE X ea (liftE X.K cx (wpE T c a))) : PI X tg ea (liftI X.K cx (.itk a) (wpI T c (.itk a))) :=
  piImp hc (pi_keys ha) fun σ H R ⟨S, σ2, hr, rs, w⟩ => stepE hc hr rs w fun x S1 v H1 hr1 k1 rs1 r1 ⟨b, kvs, z, ex, eb, w⟩ => by
    subst ex
    cases r1.1
    obtain ⟨h, o, ks, rfl, rd⟩ := hr1 b _ eb
    refine ⟨b, o, rfl, .inl ⟨ks, h, w _ H1 hr1 k1 fun Pz hz S' H' σ' hr' k' ok i => ?_⟩⟩
    obtain ⟨h', o', ks', e', rd'⟩ := hr' b _ ok
    cases e'
    have hl : kvs.length = ks.length := DicR.length rd'
    refine ⟨fun d e => ?_, fun e => ⟨h', by rw [← hl]; simpa using Nat.le_of_eq e⟩⟩
    rw [List.getElem?_map] at e
    obtain ⟨p, e1, rfl⟩ := Option.map_eq_some_iff.mp e
    obtain ⟨k, v, h1, h2, h3⟩ := dicR_get rd' e1
    refine ⟨⟨h', (List.getElem?_eq_some_iff.mp h1).1⟩, fun x H2 y => ?_⟩
    obtain ⟨rfl, k', v', h4, rfl⟩ := y
    rw [h1] at h4; cases h4
    exact ⟨hr', .refl, keyR_rep h2⟩
theorem walk_itms {a : R} {ea : Expr} {elts : List Expr} {kk : Nat} {tpos apos cpos : Pos} (ha : PE X ea (liftE X.K cx (wpE T c a))) (hb : attributeBase ea "items" X.env (eval ea X.env) = eval ea X.env) (hl : (apos.endLine == cpos.line) = true) :
    PI X (.Tuple elts kk tpos) (.Call (.Attribute ea "items" apos) [] [] cpos) (liftI X.K cx (.itms a) (wpI T c (.itms a))) :=
  piImp hc (pi_items ha hb hl) fun σ H R ⟨S, σ2, hr, rs, w⟩ => stepE hc hr rs w fun x S1 v H1 hr1 k1 rs1 r1 ⟨b, kvs, z, ex, eb, w⟩ => by
    subst ex
    cases r1.1
    obtain ⟨h, o, ks, rfl, rd⟩ := hr1 b _ eb
    refine ⟨b, o, ks, rfl, h, w _ H1 hr1 k1 fun Pz hz S' H' σ' hr' k' ok i => ?_⟩
    obtain ⟨h', o', ks', e', rd'⟩ := hr' b _ ok
    cases e'
    have hl : kvs.length = ks.length := DicR.length rd'
    refine ⟨fun d e => ?_, fun e => ⟨h', by rw [← hl]; simpa using Nat.le_of_eq e⟩⟩
    rw [List.getElem?_map] at e
    obtain ⟨p, e1, rfl⟩ := Option.map_eq_some_iff.mp e
    obtain ⟨k, v, h1, h2, h3⟩ := dicR_get rd' e1
    refine ⟨⟨h', (List.getElem?_eq_some_iff.mp h1).1⟩, fun x H2 y => ?_⟩
    obtain ⟨T', k', v', h4, rfl, n, rfl⟩ := y
    rw [h1] at h4; cases h4
    exact pair_new hr' n (keyR_rep h2) h3
end
section
variable {K : Frag} {cx : Cls2} {S : Hs} {H : Hp}
theorem lockN_on {a : Addr} {kvs : List (D × D)} (hr : Rel K cx S H) (e : S a = some (.dn kvs)) : ∃ u xs, H a = some u ∧ Mut (some u) ∧ ∀ od, Rel K cx (su S a (.fdn kvs (.frz od u) xs)) (upd H a (.frz od u)) ∧ Keep S (su S a (.fdn kvs (.frz od u) xs)) H (upd H a (.frz od u)) := by
  obtain ⟨xs, h, r⟩ := hr a _ e
  refine ⟨_, xs, h, True.intro, fun od => ?_⟩
  have t : TupS K H (upd H a (.frz od (dnO cx.w a xs))) := tupS_upd fun o z => by rw [h] at z; cases z; rfl
  refine ⟨hr.upd1 t ⟨upd_same, od, rfl, r.keep t⟩, fun b o z n => ?_, fun b z => ?_⟩
  · have ne : b ≠ a := fun q => by subst q; rw [e] at n; cases n
    rw [upd_ne ne, su_ne ne]
    exact ⟨z, n⟩
  · by_cases q : b = a
    · subst q; rw [upd_same] at z; cases z
    · rwa [upd_ne q] at z
theorem lockN_off {a : Addr} {kvs : List (D × D)} {od : Obj} {u : HO} {xs : List NE} (hr : Rel K cx S H) (e : S a = some (.fdn kvs (.frz od u) xs)) : H a = some (.frz od u) ∧ Rel K cx (su S a (.dn kvs)) (upd H a u) ∧ Keep S (su S a (.dn kvs)) H (upd H a u) := by
  obtain ⟨h, o, e', r⟩ := hr a _ e
  cases e'
  have t : TupS K H (upd H a (dnO cx.w a xs)) := tupS_upd fun o z => by rw [h] at z; cases z; rfl
  refine ⟨h, hr.upd1 t ⟨xs, upd_same, r.keep t⟩, fun b o z n => ?_, fun b z => ?_⟩
  · have ne : b ≠ a := fun q => by subst q; rw [e] at n; cases n
    rw [upd_ne ne, su_ne ne]
    exact ⟨z, n⟩
  · by_cases q : b = a
    · subst q; rw [upd_same] at z; cases z
    · rwa [upd_ne q] at z
theorem one_of {α : Type} {xs : List α} (h : xs.length = 1) : ∃ x, xs = [x] := List.length_eq_one_iff.mp h
theorem lend_on {a : Addr} {ds : List D} (hr : Rel K cx S H) (e : S a = some (.lst ds)) : ∃ vs, H a = some (.lst vs) ∧ RepL K H ds vs ∧ Rel K cx (mn a S) H := by
  obtain ⟨vs, h, r⟩ := hr a _ e
  refine ⟨vs, h, r, fun b o q => ?_⟩
  by_cases z : b = a
  · subst z; rw [mn_same] at q; cases q
  · rw [mn_ne z] at q; exact hr b o q
end
section
variable {X : Cx} {T : Tbl} {c : Nat → List Vx → Hs → VK2 → Prop} {cx : Cls2} (hc : CalMono c)
include hc
theorem snd_lockEN {e : R} {ee : Expr} (he : PE X ee (liftE X.K cx (wpE T c e))) : PE X ee (liftE X.K cx (wpE T c (.lockEN e))) :=
  peImp (pe_lock he) fun σ H Q ⟨S, σ2, hr, rs, a, kvs, ea, w⟩ => by
    obtain ⟨u, ns, h, mu, lk⟩ := lockN_on hr ea
    refine ⟨a, u, h, mu, fun od => ?_⟩
    obtain ⟨hr0, k0⟩ := lk od
    refine ⟨_, σ2, hr0, rs.keep k0 hr, wpE_mono hc (w _ ns) fun xs S' ⟨e1, x, ex, q⟩ => ⟨x, ex, fun v H' hr' k' r' => ?_⟩⟩
    obtain ⟨h1, hr1, k1⟩ := lockN_off hr' e1
    exact ⟨h1, q v _ hr1 ((k0.trans k').trans k1) ⟨r'.1.keep k1 hr', fun o => let ⟨b, e2, n⟩ := r'.2 o; ⟨b, e2, k0.up b n⟩⟩⟩
theorem snd_lend {i : Nat} {e : R} {ee : Expr} (he : PE X ee (liftE X.K cx (wpE T c e))) : PE X ee (liftE X.K cx (wpE T c (.lend i e))) :=
  peImp he fun σ H Q ⟨S, σ2, hr, rs, a, ds, ei, ea, w⟩ => by
    obtain ⟨vs, h, r, hr0⟩ := lend_on hr ea
    obtain ⟨v, hv, rv⟩ := rs.2 i _ ei
    cases rv
    refine ⟨mn a S, σ2.set i (some (.bw ds)), hr0, ⟨by rw [List.length_set]; exact rs.1, fun j x ej => ?_⟩, wpE_mono hc w fun xs S' ⟨hn, hn1, qq⟩ => (let ⟨x, ex⟩ := one_of hn1; ⟨x, ex, fun v H' hr' k' r' => ?_⟩)⟩
    · by_cases z : i = j
      · subst z
        have hi : i < σ2.length := (List.getElem?_eq_some_iff.mp ei).1
        rw [List.getElem?_set_self hi] at ej
        cases ej
        exact ⟨_, hv, a, vs, rfl, h, mn_same, r⟩
      · rw [List.getElem?_set_ne z] at ej
        obtain ⟨u, hu, ru⟩ := rs.2 j x ej
        refine ⟨u, hu, ?_⟩
        have mz : ∀ b, S b = none → mn a S b = none := fun b n => by
          by_cases z : b = a
          · subst z; exact mn_same
          · rw [mn_ne z]; exact n
        cases x with
        | d y => exact ru
        | vl es => obtain ⟨b, us, e, h1, n, q⟩ := ru; exact ⟨b, us, e, h1, mz b n, q⟩
        | bw es => obtain ⟨b, us, e, h1, n, q⟩ := ru; exact ⟨b, us, e, h1, mz b n, q⟩
        | vd es => obtain ⟨b, us, e, h1, n, q⟩ := ru; exact ⟨b, us, e, h1, mz b n, q⟩
        | bd es => obtain ⟨b, us, e, h1, n, q⟩ := ru; exact ⟨b, us, e, h1, mz b n, q⟩
        | fz es =>
          obtain ⟨b, us, e, h1, q⟩ := ru
          exact ⟨b, us, e, h1.imp (fun ⟨o, h2, n⟩ => ⟨o, h2, mz b n⟩) id, q⟩
        | st es => exact ru.elim
    · subst ex
      obtain ⟨h', n'⟩ := k'.kp a _ h mn_same
      have t := k'.tups hr0
      have hr1 : Rel X.K cx (su S' a (.lst ds)) H' := hr'.box ⟨vs, h', r.keep t⟩
      have k1 : Keep S (su S' a (.lst ds)) H H' := ⟨fun b o e n => by
        have ne : b ≠ a := fun z => by subst z; rw [ea] at n; cases n
        obtain ⟨h1, h2⟩ := k'.kp b o e (by rw [mn_ne ne]; exact n)
        exact ⟨h1, by rw [su_ne ne]; exact h2⟩, k'.up⟩
      have hx : noLoan x = true := by simpa using hn
      obtain ⟨x', ex', q⟩ := qq n'
      cases ex'
      refine q v H' hr1 k1 ⟨?_, r'.2⟩
      have nb : own x = true → ∀ b, v = .ref b → b ≠ a := fun o b eb z => by
        obtain ⟨b', e1, e2⟩ := r'.2 o
        subst z
        rw [eb] at e1; cases e1
        rw [h] at e2; cases e2
      cases x with
      | d y => exact r'.1
      | vl es => obtain ⟨b, us, e, h1, n, q⟩ := r'.1; exact ⟨b, us, e, h1, by rw [su_ne (nb rfl b e)]; exact n, q⟩
      | vd es => obtain ⟨b, us, e, h1, n, q⟩ := r'.1; exact ⟨b, us, e, h1, by rw [su_ne (nb rfl b e)]; exact n, q⟩
      | _ => cases hx
theorem snd_dctn (hw : cx.w = X.w) {pos : Pos} : PE X (.Dict [] [] pos) (liftE X.K cx (wpE T c .dctn)) :=
  peImp pe_dn fun σ H Q ⟨S, σ2, hr, rs, w⟩ => fun p n m => by
    obtain ⟨x, e, q⟩ := w p (hr.free n)
    cases e
    have t : TupS X.K H (upd H p (dnO X.w p [])) := tupS_new n
    refine q _ _ (hr.upd1 t ⟨[], by rw [hw]; exact upd_same, .nil, List.nodup_nil, Nat.zero_le _, m⟩) ⟨fun b o e z => ⟨by rw [upd_ne (ne_of_none e n)]; exact e, ?_⟩, (Keep.new (S := S) n).up⟩ ⟨rfl, fun e => by cases e⟩
    rw [su_ne (ne_of_none e n)]; exact z
omit hc in
theorem pe_dn1 {ek ev : Expr} {tk tv : TE} {pos : Pos} (hu : X.A.units + 60 < cLine) (hk : PE X ek tk) (hv : PE X ev tv) : PE X (.Dict [some ek] [ev] pos) (fun σ H Q => ∀ p, H p = none → (p == sysModules) = false → tk σ (upd H p (dnO X.w p [])) fun x H1 => tv σ H1 fun y H2 =>
    H2 p = some (dnO X.w p []) ∧ ∃ kd dd, keyN kd = true ∧ RepV X.K H2 kd x ∧ RepV X.K H2 dd y ∧ ∀ xs, DnOk X.K (upd H2 p (dnO X.w p xs)) p [(kd, dd)] xs → Q (.ref p) (upd H2 p (dnO X.w p xs))) := ⟨fun pins s σ H Q I h => by
  have hb : sysModules < s.heap.objs.size := Inv.big I
  have hm : (s.heap.objs.size == sysModules) = false := beq_eq_false_iff_ne.mpr (Nat.ne_of_gt hb)
  have I1 := I.laid (a := s.heap.objs.size) (o := dnO X.w s.heap.objs.size []) (h' := s.heap.push { cls := .type "dict", data := .dict #[] }) (t' := s.toks) (fun _ _ q => Heap.get?_push_of_some _ q) (Nat.le_refl _) (dn_okO ⟨_, #[], 0, Heap.get?_push_size _ rfl, ⟨rfl, rfl, rfl⟩, rfl, rfl⟩)
  have hn := pairTrees_length [some ek] [ev] X.env pos rfl rfl
  rw [arm_eval_Dict, zip_pairTrees [some ek] [ev] X.env pos rfl rfl, dictDisplay_pairs _ (fun z => by rw [z] at hn; cases hn) (by rw [hn]; exact Nat.le_of_ble_eq_true rfl)]
  refine wpAny_bind (wpAny_standAt (wpAny_bind (wpAny_subDictH (knd := nestedKind X.prog X.w) (show X.A.units + 8 < cLine by omega) (by rw [hn]; exact Nat.le_of_ble_eq_true rfl) ?_)))
  refine pairTrees_cons_walk (thn (hk.run pins _ σ _ _ I1 (h _ (I.hok.fresh (Nat.le_refl _)) hm)) fun u s1 ⟨x, H1, I2, rx, q1⟩ => thn (hv.run pins s1 σ H1 _ I2 q1) fun u2 s2 ⟨y, H2, I3, ry, hp, kd, dd, hkd, rk, rd, q2⟩ => pairTrees_nil_walk ?_)
  obtain ⟨b, rfl, rfl, hki⟩ := key_is I3 hkd rk rx
  have ok0 : DnOk X.K H2 s.heap.objs.size [] [] := ⟨.nil, List.nodup_nil, Nat.zero_le _, hm⟩
  refine ⟨[(nkD kd, b, u2)], ⟨rfl, rfl, hki, trivial⟩, dn_of I3 (.inl hp) ok0, fun h' tk' dd' hs => wpAny_pure ?_⟩
  obtain ⟨o, es, ep, h1, h2, h3, h4, _, h5⟩ := dd'
  have p : dnP X.w s.heap.objs.size (storedH [] (nkD kd) b u2) h' := ⟨o, es, ep, h1, h2, h3, h4⟩
  refine ⟨.ref s.heap.objs.size, _, d_write (t' := tk') I3 (by rw [hp]; exact True.intro) hs ⟨o, h1⟩ (dn_okO p), rfl, q2 _ ?_⟩
  exact DnOk.keep (dn_tups hp) ⟨.cons ⟨hkd, rfl, rk, y, ry, rd⟩ .nil, h5, by rw [sizeLine_eq]; exact Nat.le_of_ble_eq_true rfl, hm⟩⟩
theorem snd_dctn1 (hw : cx.w = X.w) (hu : X.A.units + 60 < cLine) {k v : R} {ek ev : Expr} {pos : Pos} (hk : PE X ek (liftE X.K cx (wpE T c k))) (hv : PE X ev (liftE X.K cx (wpE T c v))) : PE X (.Dict [some ek] [ev] pos) (liftE X.K cx (wpE T c (.dctn1 k v))) :=
  peImp (pe_dn1 hu hk hv) fun σ H Q ⟨S, σ2, hr, rs, w⟩ => fun p n m => by
    have k0 : Keep S S H (upd H p (dnO X.w p [])) := Keep.new n
    have hr0 : Rel X.K cx S (upd H p (dnO X.w p [])) := hr.upd0 (hr.free n) (tupS_new n)
    refine stepE hc hr0 (rs.keep k0 hr) w fun x S1 xv H1 hr1 k1 rs1 r1 w => stepE hc hr1 rs1 w fun y S2 yv H2 hr2 k2 rs2 r2 w => ?_
    obtain ⟨d, S3, ⟨kd, ex, hkd, w'⟩, hr3, k3, rd, _⟩ := rel_box hc hr2 k2 r2 w
    subst ex
    obtain ⟨hp1, sp1⟩ := (k1.trans k3).kp p _ upd_same (hr.free n)
    refine ⟨hp1, kd, d, hkd, RepV.keep (k3.tups hr1) _ _ r1.1, rd, fun xs ok => ?_⟩
    obtain ⟨x', ex', q⟩ := w' p sp1
    cases ex'
    refine q _ _ (hr3.upd1 (dn_tups hp1) ⟨xs, by rw [hw]; exact upd_same, ok⟩) ⟨fun b o e' nb => ?_, fun b e' => ?_⟩ ⟨rfl, fun e => by cases e⟩
    · have ne : b ≠ p := fun z => by subst z; rw [n] at e'; cases e'
      obtain ⟨g1, g2⟩ := (k0.trans (k1.trans k3)).kp b o e' nb
      exact ⟨by rw [upd_ne ne]; exact g1, by rw [su_ne ne]; exact g2⟩
    · by_cases ne : b = p
      · subst ne; exact n
      · rw [upd_ne ne] at e'
        exact (k0.trans (k1.trans k3)).up b e'
omit hc in
theorem pe_lockV {e : Expr} {t : TE} (h : PE X e t) : PE X e (fun σ H Q => t σ H fun x H1 => ∃ d u, x = .ref d ∧ H1 d = some u ∧ Mut (some u) ∧ ∀ od, Q (.ref d) (upd H1 d (.frz od u))) := ⟨fun pins s σ H Q I hw => by
  refine thn (h.run pins s σ _ _ I hw) fun v s1 ⟨x, H1, I2, r, d, u, ex, hd, mu, q⟩ => ?_
  subst ex
  obtain ⟨od, I3⟩ := I2.lock hd mu
  exact ⟨.ref d, _, I3, r, q od⟩⟩
theorem snd_lockV {e : R} {ee : Expr} (he : PE X ee (liftE X.K cx (wpE T c e))) : PE X ee (liftE X.K cx (wpE T c (.lockV e))) :=
  peImp (pe_lockV he) fun σ H Q ⟨S, σ2, hr, rs, w⟩ => stepE hc hr rs w fun x S1 v H1 hr1 k1 rs1 r1 ⟨a, kvs, ex, ea, w⟩ => by
    subst ex
    cases r1.1
    obtain ⟨u, ns, h, mu, lk⟩ := lockN_on hr1 ea
    refine ⟨a, u, rfl, h, mu, fun od => ?_⟩
    obtain ⟨hr2, k2⟩ := lk od
    obtain ⟨x', ex', q⟩ := w _ ns
    cases ex'
    exact q _ _ hr2 (k1.trans k2) ⟨rfl, fun e => by cases e⟩
theorem st_lockN {st : R} {es : Stmt} (h : PS X es (liftS X.K cx (wpS T c st))) : PS X es (liftS X.K cx (wpS T c (.lockN st))) :=
  psImp (ps_lock h) fun D σ H ⟨B, S, σ2, hr, rs, kb, a, kvs, ea, w⟩ => by
    obtain ⟨u, ns, h, mu, lk⟩ := lockN_on hr ea
    refine ⟨a, u, h, mu, fun od => ?_⟩
    obtain ⟨hr0, k0⟩ := lk od
    refine ⟨B, _, σ2, hr0, rs.keep k0 hr, kb.keep k0, wpS_mono hc (fun σ' S' ⟨e1, q⟩ B' σ H' l hr' rs' kb' => ?_) (fun x S' ⟨e1, q⟩ B' v H' l hr' kb' r' o => ?_) (fun σ' S' ⟨e1, q⟩ B' σ H' l hr' rs' kb' => ?_) (fun σ' S' ⟨e1, q⟩ B' σ H' l hr' rs' kb' => ?_) (w _ ns)⟩
    · obtain ⟨h1, hr1, k1⟩ := lockN_off hr' e1
      exact ⟨h1, q B' σ _ l hr1 (rs'.keep k1 hr') (kb'.keep k1)⟩
    · obtain ⟨h1, hr1, k1⟩ := lockN_off hr' e1
      exact ⟨h1, q B' v _ l hr1 (kb'.keep k1) (r'.keep k1 hr') o⟩
    · obtain ⟨h1, hr1, k1⟩ := lockN_off hr' e1
      exact ⟨h1, q B' σ _ l hr1 (rs'.keep k1 hr') (kb'.keep k1)⟩
    · obtain ⟨h1, hr1, k1⟩ := lockN_off hr' e1
      exact ⟨h1, q B' σ _ l hr1 (rs'.keep k1 hr') (kb'.keep k1)⟩
omit hc in
theorem Inv.frzN {pins : List (Addr × Obj)} {σ : L2.St} {H : Hp} {s : Shared} {d : Addr} {o : Obj} {w : World} {xs : List NE} (I : Inv X pins σ H s) (h : H d = some (.frz o (dnO w d xs))) :
    s.heap.get? d = some o ∧ o.ExactDict ∧ ∃ (es : Array DictEntry) (ep : Nat), o.data = .dict es ep ∧ es.size = xs.length ∧ ∀ (i : Nat) (y : NE), xs[i]? = some y → ∃ en : DictEntry, es[i]? = some en ∧ en.key = .ref y.2.1 := by
  obtain ⟨hd, ⟨o', es, ep, h1, h2, h3, h4⟩, _⟩ := I.hok d _ h
  rw [hd] at h1
  cases h1
  refine ⟨hd, h2, es, ep, h3, by rw [← Array.length_toList, h4, List.length_map], fun i y e => ⟨entN w y, ?_, rfl⟩⟩
  rw [← Array.getElem?_toList, h4, List.getElem?_map, e]; rfl
noncomputable def Itkn (w : World) (d : Addr) (o : Obj) (xs : List NE) : It :=
  ⟨fun i H => H d = some (.frz o (dnO w d xs)) ∧ i < xs.length, fun i H x H' => H' = H ∧ ∃ y : NE, xs[i]? = some y ∧ x = .ref y.2.1, fun i H => H d = some (.frz o (dnO w d xs)) ∧ xs.length ≤ i⟩
omit hc in
theorem turn_keysN {P : Program} {w : World} {K : PySem.W.Frag} {tg : Expr} {w' : World} {d : Addr} {o : Obj} {es : Array DictEntry} {ep : Nat} {xs : List NE} (it : Addr) (hod : o.data = .dict es ep) : Turn P w K tg (Itkn w' d o xs) [it] it (fun i h => h.IsKeyIter it d i xs.length ep) where
  mem := by simp
  obj := fun i h st b hb => by
    have e : b = it := by simpa using hb
    subst e
    obtain ⟨oi, e, c, dd⟩ := st
    exact ⟨oi, e, fun v z => by rw [dd] at z; cases z⟩
  keep := fun i h h' st k => st.at fun oi e => k it (by simp) oi e
  item := by
    intro X hP hw hK hc i pins s σ H E I hf st hg
    subst hP hw hK
    obtain ⟨hd, hi⟩ := hg
    obtain ⟨f0, f1, f2, f3, f4, f5⟩ := hf it (by simp)
    obtain ⟨hgd, hx, es', ep', hdt, hsz, ent⟩ := Inv.frzN I hd
    obtain ⟨rfl, rfl⟩ := dict_ep hod hdt
    obtain ⟨y, hy⟩ : ∃ y, xs[i]? = some y := ⟨xs[i], List.getElem?_eq_getElem hi⟩
    obtain ⟨en, hen, hkey⟩ := ent i y hy
    refine next_key_item st hgd hdt hsz hen fun h' st' sb => ?_
    have I1 : Inv X pins σ H { s with heap := h' } := I.turned (t' := s.toks) (fun b ob hb e => (sb.2 b hb).trans e) f0 f1 f3 f4 f5
    obtain ⟨oi, e, c, dd⟩ := id st'
    exact ⟨en.key, rfl, go_of (s := { s with heap := h' }) e c dd (by decide) ⟨.ref y.2.1, H, I1, hkey, ⟨rfl, y, hy, rfl⟩, st', fun b hb => (hf b hb).1⟩⟩
  done := by
    intro X hP hw hK hc i pins s σ H E I hf st hg
    subst hP hw hK
    obtain ⟨hd, hi⟩ := hg
    obtain ⟨f0, f1, f2, f3, f4, f5⟩ := hf it (by simp)
    obtain ⟨hgd, hx, es', ep', hdt, hsz, ent⟩ := Inv.frzN I hd
    obtain ⟨rfl, rfl⟩ := dict_ep hod hdt
    exact next_key_end (I.ok.hd hc) st hgd hdt hsz hi fun h' eb => ⟨rfl, I.turned (t' := s.toks) (fun b ob hb e => eb b ob hb e) f0 f1 f3 f4 f5⟩
  self := fun A i s Q E st h => by
    refine wpAny_pyIter_slot st.typeIs PySem.F.slot_dict_keyiterator_iter (wpAny_call_entry PySem.F.slot_dict_keyiterator_iter st.typeIs PySem.F.entry_dict_keyiterator_iter ?_ (PySem.F.args_dict_keyiterator_iter_1 _))
    show wpAny _ _ (ret (.ref it)) _ _ s
    exact wpAny_pure ⟨_, rfl, "dict_keyiterator", _, st.typeIs, PySem.F.slot_dict_keyiterator_next.lookup, h⟩
noncomputable def iKeysN (td : TE) : TI := fun σ H R => td σ H fun x H1 => ∃ d o w xs, x = .ref d ∧ (d == sysModules) = false ∧ H1 d = some (.frz o (dnO w d xs)) ∧ R (Itkn w d o xs) H1
omit hc in
theorem pi_keysN {tg e : Expr} {td : TE} (he : PE X e td) : PI X tg e (iKeysN td) := by
  refine ⟨fun pins s σ H R I h => ?_⟩
  refine thn (he.run pins s σ H _ I h) fun u s1 ⟨x, H1, I1, rx, d, o, w, xs, ex, hs, hd, q⟩ => ?_
  subst ex
  obtain rfl : u = Value.ref d := rx
  obtain ⟨hgd, hx, es, ep, hdt, hsz, ent⟩ := Inv.frzN I1 hd
  refine iter_keys hs hgd hx hdt (pi_one (tk := s1.toks) I1 _ (turn_keysN _ hdt) ⟨_, Heap.get?_push_size _ rfl, rfl, ?_⟩ q)
  rw [hsz] <;> rfl
omit hc in
theorem dnR_get {K : Frag} {H : Hp} : ∀ {kvs : List (D × D)} {xs : List NE} {i : Nat} {p : D × D}, DnR K H kvs xs → kvs[i]? = some p → ∃ y, xs[i]? = some y ∧ DnE K H p y
  | _, _, i, p, .nil, e => by simp at e
  | q :: kvs, y :: ys, 0, p, .cons h t, e => by simp at e; subst e; exact ⟨y, rfl, h⟩
  | q :: kvs, b :: ys, i + 1, p, .cons h t, e => by
    obtain ⟨y, h1, h2⟩ := dnR_get (i := i) t (by simpa using e)
    exact ⟨y, by simpa using h1, h2⟩
theorem walk_itkn {a : R} {ea tg : Expr} (ha : PE X ea (liftE X.K cx (wpE T c a))) : PI X tg ea (liftI X.K cx (.itkn a) (wpI T c (.itkn a))) :=
  piImp hc (pi_keysN ha) fun σ H R ⟨S, σ2, hr, rs, w⟩ => stepE hc hr rs w fun x S1 v H1 hr1 k1 rs1 r1 ⟨b, kvs, z, xs, ex, eb, w⟩ => by
    subst ex
    cases r1.1
    obtain ⟨h, o, rfl, rd⟩ := hr1 b _ eb
    refine ⟨b, o, cx.w, xs, rfl, rd.m, h, w _ H1 hr1 k1 fun Pz hz S' H' σ' hr' k' ok i => ?_⟩
    obtain ⟨h', o', _, rd'⟩ := hr' b _ ok
    have hl : kvs.length = xs.length := rd'.r.length
    refine ⟨fun d e => ?_, fun e => ⟨h', by rw [← hl]; simpa using Nat.le_of_eq e⟩⟩
    rw [List.getElem?_map] at e
    obtain ⟨p, e1, rfl⟩ := Option.map_eq_some_iff.mp e
    obtain ⟨y, h1, h2⟩ := dnR_get rd'.r e1
    refine ⟨⟨h', (List.getElem?_eq_some_iff.mp h1).1⟩, fun x H2 y' => ?_⟩
    obtain ⟨rfl, y2, h4, rfl⟩ := y'
    rw [h1] at h4; cases h4
    exact ⟨hr', .refl, h2.2.2.1⟩
omit hc in
theorem slice_one (items : Array Value) : slicePick items none none (some 1) = slicePick items none none none := rfl
noncomputable def tStpL (K : PySem.W.Frag) (te tk : TE) : TE := fun σ H Q => te σ H fun x H1 => tPart tk σ H1 fun o H2 => ∃ a xs z, x = .ref a ∧ SqL K H2 a xs ∧ o = some z ∧ (z = 1 ∨ z = -1) ∧ ∀ p, H2 p = none → Q (.ref p) (upd H2 p (.lst (if z = 1 then xs else xs.reverse)))
omit hc in
theorem pe_stpL {e ek : Expr} {te tk : TE} {p3 pos : Pos} (he : PE X e te) (hk : PE X ek tk) : PE X (.Subscript e (.Slice none none (some ek) p3) pos) (tStpL X.K te tk) := by
  refine ⟨fun pins s σ H Q I h => ?_⟩
  refine Subscript_ (thn (he.run pins s σ H _ I h) fun v s1 ⟨x, H1, I1, r1, q1⟩ => ?_)
  refine wpAny_Slice (thn (po_none.run pins s1 σ H1 (fun o H2 => o = none ∧ H2 = H1) I1 ⟨rfl, rfl⟩) fun vl s2 ⟨l, H2, I2, pl, el, e2⟩ => ?_)
  subst el e2
  refine thn (po_none.run pins s2 σ H2 (fun o H3 => o = none ∧ H3 = H2) I2 ⟨rfl, rfl⟩) fun vu s3 ⟨u, H3, I3, pu, eu, e3⟩ => ?_
  subst eu e3
  refine thn ((po_some hk).run pins s3 σ H3 _ I3 q1) fun vs s4 ⟨o, H4, I4, ps, a, xs, z, ex, hx, eo, hz1, q⟩ => ?_
  subst ex eo
  cases r1
  have I5 : Inv X pins σ H4 { s4 with heap := s4.heap.push { cls := .type "slice", data := .fields #[vl, vu, vs] } } := I4.kept (t' := s4.toks) fun b ob q => Heap.get?_push_of_some _ q
  obtain ⟨its, r, ht, hz⟩ := I5.list hx
  have hlen := r.length
  show wpAny (model X.prog X.w) X.A (subscriptTail e (.Slice none none (some ek) p3) (.ref a) (.ref s4.heap.objs.size)) (EP X pins σ Q) X.xe { s4 with heap := s4.heap.push { cls := .type "slice", data := .fields #[vl, vu, vs] } }
  refine tail_any (ops := [.ref a, .ref s4.heap.objs.size]) ht.isList.typeIs (PySem.slot_list_getitem.lookup) ?_ (by with_unfolding_all rfl)
  refine wpAny_getItem_list_slice ht.isList (Heap.IsSliceOf.new _ vl vu vs) pl pu ps (by rcases hz1 with rfl | rfl <;> decide) ?_ (by rw [List.size_toArray]; omega)
  rcases hz1 with rfl | rfl
  · rw [slice_one, slicePick_cut]
    have e : (its.drop (HT.sIx its.length 0 none)).take (HT.sIx its.length its.length none - HT.sIx its.length 0 none) = its := by rw [HT.sIx_none, HT.sIx_none]; simp
    rw [e]
    exact ⟨.ref _, _, I5.laid (t' := s4.toks) (o := .lst xs) (fun b ob q => Heap.get?_push_of_some _ q) (Nat.le_refl _) ⟨hz, _, 0, r, Heap.get?_push_size _ rfl⟩, rfl, q _ (I5.hok.fresh (Nat.le_refl _))⟩
  · rw [PySem.W.krv_pick]
    refine ⟨.ref _, _, I5.laid (t' := s4.toks) (o := .lst xs.reverse) (fun b ob q => Heap.get?_push_of_some _ q) (Nat.le_refl _) ?_, rfl, q _ (I5.hok.fresh (Nat.le_refl _))⟩
    exact ⟨by rw [List.length_reverse]; exact hz, _, 0, r.reverse, Heap.get?_push_size _ rfl⟩
omit hc in
theorem RepL.rev {K : Frag} {H : Hp} : ∀ {ds : List D} {vs : List V}, RepL K H ds vs → RepL K H ds.reverse vs.reverse
  | [], _, e => by cases e; exact .nil
  | d :: ds, _, ⟨v, vr, e, r, rr⟩ => by
    subst e
    rw [List.reverse_cons, List.reverse_cons]
    exact RepL.append (RepL.rev rr) (.cons r .nil)
theorem snd_stp {a k : R} {ea ek : Expr} {p3 pos : Pos} (ha : PE X ea (liftE X.K cx (wpE T c a))) (hk : PE X ek (liftE X.K cx (wpE T c k))) : PE X (.Subscript ea (.Slice none none (some ek) p3) pos) (liftE X.K cx (wpE T c (.stp a k))) :=
  peImp (pe_stpL ha hk) fun σ H Q ⟨S, σ2, hr, rs, w⟩ => stepE hc hr rs w fun x S1 v H1 hr1 k1 rs1 r1 w => stepE hc hr1 rs1 w fun y S2 u H2 hr2 k2 rs2 r2 ⟨z, ez, hz, w⟩ => by
    subst ez
    cases r2.1
    obtain ⟨cn, ⟨ds, rfl, x', ex, q⟩, hcn⟩ := view_of hr2 (r1.1.keep k2 hr1) w
    obtain ⟨a, vs, rfl, ha, rv⟩ := hcn
    cases ex
    refine ⟨z, rfl, a, vs, z, rfl, SqL.of ha, rfl, hz, fun p n => fin_vl (KVof.of (k1.trans k2) q) hr2 ?_ p n⟩
    split
    · exact rv
    · exact rv.rev
end
section
variable {prog : Program} {w : World} {K : Type} [DecidableEq K] {knd : KeyKind prog w K} {A : Around}
theorem keyOf_end {s : Shared} {E : Value → Shared → Prop} {it d : Addr} {i n ep : Nat} {od : Obj} {es : Array DictEntry} {Q : Value → Shared → Prop} (hh : A.handled = none) (hit : s.heap.IsKeyIter it d i n ep) (hod : s.heap.get? d = some od) (hdd : od.data = .dict es ep) (hsz : es.size = n) (hge : n ≤ i)
    (hE : ∀ h' e, Heap.ExtBut it s.heap h' → (∃ o, h'.get? e = some o ∧ o.cls = .type "StopIteration") → E (.ref e) { s with heap := h' }) : wpAny (model prog w) A (Builtin.SmallTypes.nextOf (.ref it)) Q E s := by
  obtain ⟨o, ho, hc, hd⟩ := id hit; unfold Builtin.SmallTypes.nextOf
  refine wpAny_bind (wpAny_callSpecial?_slot (name := Str.ofString "__next__") hit.typeIs F.slot_dict_keyiterator_next (wpAny_call_entry F.slot_dict_keyiterator_next hit.typeIs F.entry_dict_keyiterator_next ?_ (F.args_dict_keyiterator_next_1 _)))
  refine wpAny_bind (wpAny_pure ?_); refine wpAny_bind ?_; refine wpAny_bind ?_
  refine wpAny_bind (wpAny_typeNameOfWhole_keyiter hit.typeIs (wpAny_pure ?_)); refine wpAny_bind (wpAny_fieldsOf ho hd ?_)
  simp only [show Builtin.Dict_items.ownsTuple "dict_keyiterator" = false by decide, Bool.false_eq_true, if_false]
  show wpAny _ _ (if (Value.ref d == Value.none) = true then _ else _) _ _ s; rw [if_neg (show ¬ ((Value.ref d == Value.none) = true) from Bool.false_ne_true)]
  refine wpAny_bind (wpAny_pure ?_); refine wpAny_bind (wpAny_dictEntries hod hdd ?_); rw [if_neg (by rw [hsz]; simp)]
  refine wpAny_bind (wpAny_pure ?_); refine wpAny_bind (wpAny_dictEpoch hod hdd ?_); rw [if_neg (by simp)]; refine wpAny_pure ?_
  simp only [show ¬ ((i : Int) < 0) from by omega, if_false, Int.toNat_natCast, Array.getElem?_eq_none (show es.size ≤ i by rw [hsz]; exact hge)]
  refine wpAny_bind ?_; refine wpAny_bind (wpAny_typeNameOfWhole_keyiter hit.typeIs (wpAny_pure ?_))
  show wpAny _ _ (setField (.ref it) 0 .none >>= _) _ _ s; refine wpAny_bind (wpAny_setField ho hd (by simp) ?_)
  show wpAny _ _ (newExc (.type "StopIteration") [] >>= _) _ _ _; refine wpAny_bind ?_; simp only [newExc, newTuple]
  refine wpAny_bind (wpAny_newObj_type ?_ (by size_fits)); refine wpAny_bind (m := firstArgMember _ _) (wpAny_of_eq (a := Value.none) (by first | rfl | (simp only [firstArgMember]; rfl)) ?_)
  refine wpAny_newObj_type ?_ (by size_fits); simp only [raiseNew]; refine wpAny_bind (wpAny_handled ?_)
  rw [show A.in1.handled = none from hh]; refine wpAny_bind (wpAny_pure (wpAny_throw ?_))
  exact hE _ _ (((Heap.SameBut.update ..).extBut.push _).push _) ⟨_, Heap.get?_push_size _ rfl, rfl⟩
theorem drawsK (hh : A.handled = none) (it d : Addr) (hne : d ≠ it) (kvs : List (K × Value)) (ep : Nat) :
    Draws prog w A it [it, d] kvs.length (fun i v => ∃ k x, kvs[i]? = some (k, x) ∧ knd.is k v = true) (fun i h => h.IsKeyIter it d i kvs.length ep ∧ h.DictAt knd d kvs ep) where
  live := fun _ _ st => let ⟨o, ho, _⟩ := st.1; ⟨o, ho⟩
  frame := fun _ _ _ st hk => ⟨st.1.at fun o e => hk it (by simp) o e, st.2.at' fun o e => hk d (by simp) o e⟩
  item := fun i s Q E hi st hQ => by
    obtain ⟨⟨k, x⟩, hkv⟩ : ∃ p, kvs[i]? = some p := ⟨kvs[i], List.getElem?_eq_getElem hi⟩
    unfold Builtin.SmallTypes.nextOf
    refine wpAny_bind (PySem.W.kdk_special st.1 st.2 hkv fun key h' hk st' sb => ?_)
    exact wpAny_pure (hQ key h' s.toks ⟨k, x, hkv, hk⟩ ⟨st', st.2.at' fun o e => (sb.2 d hne).trans e⟩ sb)
  done := fun s Q E st hE => by
    obtain ⟨od, es, hod, hcd, hdd, hk, hp, hn⟩ := st.2
    refine keyOf_end hh st.1 hod hdd ?_ (Nat.le_refl _) hE
    have := hp.length
    simpa using this
end
theorem beginsK {d : Addr} {od : Obj} {es : Array DictEntry} {ep : Nat} (hd : (d == sysModules) = false) : Begins (.ref d) { cls := .type "dict_keyiterator", data := .fields #[.ref d, .int 0 0, .int es.size 0, .int ep 0] } fun h => h.get? d = some od ∧ od.ExactDict ∧ od.data = .dict es ep where
  iter := fun prog' w' A E s Q hm h => iter_keys hd hm.1 hm.2.1 hm.2.2 h
  keeps := fun h h' x hk => ⟨hk d _ x.1, x.2⟩
  free := rfl
noncomputable def IteK (d : Addr) (o : Obj) (kvs : List (Key × V)) : It :=
  ⟨fun i H => H d = some (.frz o (.dK kvs)) ∧ i < kvs.length, fun i H x H' => ∃ T k v, kvs[i]? = some (k, v) ∧ x = .ref T ∧ H T = none ∧ H' = upd H T (.tup [.int (i : Nat), kV k]), fun i H => H d = some (.frz o (.dK kvs)) ∧ kvs.length = i⟩
theorem turn_enumK {P : Program} {w : World} {K : PySem.W.Frag} {elts : List Expr} {kk : Nat} {tpos : Pos} {d : Addr} {o : Obj} {es : Array DictEntry} {ep : Nat} {kvs : List (Key × V)} (e it : Addr) (hod : o.data = .dict es ep) :
    Turn P w K (.Tuple elts kk tpos) (IteK d o kvs) [e, it] e (fun i h => (∃ old, IsEnum h e it ((i : Nat) : Int) old) ∧ h.IsKeyIter it d i kvs.length ep ∧ e ≠ it) where
  mem := by simp
  obj := fun i h st b hb => by
    obtain ⟨⟨old, he⟩, ⟨oi, ho, hc, hd⟩, _⟩ := st
    rcases (by simpa using hb : b = e ∨ b = it) with z | z
    · rw [z]; exact ⟨_, he, fun v q => nomatch q⟩
    · rw [z]; exact ⟨oi, ho, fun v q => by rw [hd] at q; cases q⟩
  keep := fun i h h' st k => let ⟨⟨old, he⟩, hi, hne⟩ := st; ⟨⟨old, k e (by simp) _ he⟩, hi.at fun o q => k it (by simp) o q, hne⟩
  item := by
    intro X hP hw hK hc i pins s σ H E I hf st hg
    subst hP hw hK
    obtain ⟨⟨old, he⟩, hit, hne⟩ := st
    obtain ⟨hd, hi⟩ := hg
    obtain ⟨hs, hgd, hx, es', ep', vs, hdt, hsz, kv, hm⟩ := I.frzK hd
    obtain ⟨rfl, rfl⟩ := dict_ep hod hdt
    have hl : kvs.length = vs.length := Paired.length kv
    have hel : e < s.heap.objs.size := Heap.lt_size he
    have hil : it < s.heap.objs.size := by obtain ⟨_, q, _⟩ := hit; exact Heap.lt_size q
    have hde : d ≠ it := fun z => by
      subst z; obtain ⟨oi, q, c, _⟩ := hit; rw [hgd] at q; cases q; exact absurd (hx.1.symm.trans c) (by decide +kernel)
    have hdx : d ≠ e := fun z => by
      subst z; have he2 : s.heap.get? d = some _ := he; rw [hgd] at he2; cases he2; exact absurd (show Value.type "enumerate" = Value.type "dict" from hx.1) (by decide +kernel)
    rw [hl] at hit
    refine wpAny_pyNext_enum_itemD (drawsK (prog := X.prog) (w := X.w) (A := X.A.in1) (show X.A.in1.handled = none from I.ok.hd hc) it d hde vs ep') he ⟨hit, hm⟩ (by omega) hne (by simp [hne, Ne.symm hdx]) fun u h' tk hP ho hst' hT hsz hk => ?_
    obtain ⟨k, x, hkv, hkey⟩ := hP
    obtain ⟨⟨k', v⟩, hkv'⟩ : ∃ p, kvs[i]? = some p := ⟨kvs[i], List.getElem?_eq_getElem hi⟩
    obtain ⟨u', hu, ru⟩ := kv_get kv hkv'
    have ek : k' = k := by rw [hu] at hkv; cases hkv; rfl
    subst ek
    have rk : RelV (kV k') u := relV_key (show keyIs k' u = true from hkey)
    refine ⟨_, rfl, wpAny_letOwnedTupleGo_enum (s := { s with heap := h', toks := tk + 1 }) ho fun h'' he' sb => ?_⟩
    have hT2 := (sb.2 _ (Nat.ne_of_gt hel)).trans hT
    have new : ObjOk X.prog X.w (upd H s.heap.objs.size (.tup [.int (i : Nat), kV k'])) h'' s.heap.objs.size (.tup [.int (i : Nat), kV k']) := ⟨show 2 ≤ sizeLine by decide, [.int i tk, u], .cons ⟨_, rfl⟩ (.cons rk .nil), ⟨_, hT2, rfl, _, rfl⟩⟩
    have I1 := I.turnedNew (t' := tk + 1) (ch := [e, it]) (fun b ob hb q => (sb.2 b (fun z => hb (by simp [z]))).trans (hk b ob (fun z => hb (by simp [z])) (fun z => hb (by simp [z])) q)) hf (Nat.le_refl _) new
    refine ⟨.ref s.heap.objs.size, _, I1, rfl, ⟨_, k', v, hkv', rfl, I.hok.fresh (Nat.le_refl _), rfl⟩, ⟨⟨u, ?_⟩, ?_, hne⟩, fun b hb => ?_⟩
    · rw [show ((i + 1 : Nat) : Int) = (i : Int) + 1 by omega]; exact he'
    · rw [hl]; exact hst'.1.at fun o q => (sb.2 it (Ne.symm hne)).trans q
    · have hb' : b < s.heap.objs.size := by
        rcases (by simpa using hb : b = e ∨ b = it) with z | z
        · rw [z]; exact hel
        · rw [z]; exact hil
      rw [upd_ne (Nat.ne_of_lt hb')]; exact (hf b hb).1
  done := by
    intro X hP hw hK hc i pins s σ H E I hf st hg
    subst hP hw hK
    obtain ⟨⟨old, he⟩, hit, hne⟩ := st
    obtain ⟨hd, hi⟩ := hg
    obtain ⟨hs, hgd, hx, es', ep', vs, hdt, hsz, kv, hm⟩ := I.frzK hd
    obtain ⟨rfl, rfl⟩ := dict_ep hod hdt
    obtain ⟨f0, f1, f2, f3, f4, f5⟩ := hf it (by simp)
    have hl : kvs.length = vs.length := Paired.length kv
    have hde : d ≠ it := fun z => by
      subst z; obtain ⟨oi, q, c, _⟩ := hit; rw [hgd] at q; cases q; exact absurd (hx.1.symm.trans c) (by decide +kernel)
    rw [hl] at hit
    have hs2 : vs.length = i := by omega
    rw [← hs2] at hit he
    exact wpAny_pyNext_enum_endD (drawsK (prog := X.prog) (w := X.w) (A := X.A.in1) (show X.A.in1.handled = none from I.ok.hd hc) it d hde vs ep') he ⟨hit, hm⟩ fun h' eb => ⟨rfl, I.turned (t' := s.toks) (fun b o hb q => eb b o hb q) f0 f1 f3 f4 f5⟩
  self := fun A i s Q E st h => let ⟨⟨_, he⟩, _⟩ := st; wpAny_pyIter_enum he h
noncomputable def iEnumK (ta : TA) : TI := fun σ H R => ta σ H fun vs H1 => ∃ d o kvs, vs = [.ref d] ∧ H1 d = some (.frz o (.dK kvs)) ∧ R (IteK d o kvs) H1
theorem pi_enumK {X : Cx} {e : Expr} {ta : TA} {p pos tpos : Pos} {elts : List Expr} {kk : Nat} (hg : Gl X "enumerate") (hm : X.mg "enumerate" = none) (ha : PA X [e] ta) (hs : starEach [e] X.env = [(false, eval e X.env)]) :
    PI X (.Tuple elts kk tpos) (.Call (.Name "enumerate" p) [e] [] pos) (iEnumK ta) := by
  refine ⟨fun pins s σ H R I h => Call_ (ld_blt I hg hm boot_enumerate (PyProof.Rows.callWith_type1 (thn (ha.run pos pins s σ H _ I h) fun us s1 ⟨vs, H1, I1, r1, q1⟩ => ?_) hs rfl))⟩
  obtain ⟨d, o, kvs, ex, hd, q⟩ := q1
  subst ex
  cases r1 with
  | cons r rr =>
    cases rr
    cases r
    have fp2 : ∀ b ∈ [s1.heap.objs.size + 1, s1.heap.objs.size], FpOk X pins H1 b := fun b hb => by
      have hle : s1.heap.objs.size ≤ b := by rcases (by simpa using hb : b = s1.heap.objs.size + 1 ∨ b = s1.heap.objs.size) with z | z <;> omega
      exact I1.fpOk hle (I1.hok.fresh hle)
    obtain ⟨hsm, hgd, hx, es, ep, vs, hdt, hsz, kv, hmm⟩ := I1.frzK hd
    refine call_enumT (beginsK hsm) ⟨hgd, hx, hdt⟩ fun h' he hit hz hk => wpAny_pyIter_enum he ?_
    have I2 : Inv X pins σ H1 { s1 with heap := h' } := I1.kept (t' := s1.toks) hk
    refine ⟨s1.heap.objs.size + 1, [s1.heap.objs.size + 1, s1.heap.objs.size], _, _, H1, rfl, I2, turn_enumK (s1.heap.objs.size + 1) s1.heap.objs.size hdt, ⟨⟨.none, he⟩, ⟨_, hit, rfl, ?_⟩, Nat.succ_ne_self _⟩, fp2, q⟩
    rw [hsz]; rfl
section
variable {X : Cx} {T : Tbl} {c : Nat → List Vx → Hs → VK2 → Prop} {cx : Cls2} (hc : CalMono c)
include hc
theorem walk_enuk {a : R} {ea : Expr} {elts : List Expr} {kk : Nat} {p pos tpos : Pos} (hg : Gl X "enumerate") (hm : X.mg "enumerate" = none) (hs : starEach [ea] X.env = [(false, eval ea X.env)]) (ha : PE X ea (liftE X.K cx (wpE T c a))) :
    PI X (.Tuple elts kk tpos) (.Call (.Name "enumerate" p) [ea] [] pos) (liftI X.K cx (.enuk a) (wpI T c (.enuk a))) :=
  piImp hc (pi_enumK hg hm (pa_cons ha pa_nil hs) hs) fun σ H R ⟨S, σ2, hr, rs, w⟩ => stepE hc hr rs w fun x S1 v H1 hr1 k1 rs1 r1 ⟨b, kvs, z, ex, eb, w⟩ => by
    subst ex
    cases r1.1
    obtain ⟨h, o, ks, rfl, rd⟩ := hr1 b _ eb
    refine ⟨b, o, ks, rfl, h, w _ H1 hr1 k1 fun Pz hz S' H' σ' hr' k' ok i => ?_⟩
    obtain ⟨h', o', ks', e', rd'⟩ := hr' b _ ok
    cases e'
    have hl : kvs.length = ks.length := DicR.length rd'
    refine ⟨fun d e => ?_, fun e => ⟨h', by rw [← hl]; rw [enumD_length, List.length_map] at e; omega⟩⟩
    obtain ⟨x, e1, rfl⟩ := enumD_get _ _ _ _ e
    rw [List.getElem?_map] at e1
    obtain ⟨p, e2, rfl⟩ := Option.map_eq_some_iff.mp e1
    obtain ⟨k, v, h1, h2, h3⟩ := dicR_get rd' e2
    refine ⟨⟨h', (List.getElem?_eq_some_iff.mp h1).1⟩, fun x H2 y => ?_⟩
    obtain ⟨T', k', v', h4, rfl, n, rfl⟩ := y
    rw [h1] at h4; cases h4
    rw [Nat.zero_add]
    exact pair_new hr' n rfl (keyR_rep h2)
end
section
variable {X : Cx}
theorem pe_getN {o e f : Expr} {td ty tx : TE} {apos cpos : Pos} {cx : Cls2} (hu : X.A.units + 62 < cLine) (hw : cx.w = X.w) (ho : PE X o td) (he : PE X e ty) (hf : PE X f tx) (m : M2 X o "get" apos e f cpos) :
    PE X (.Call (.Attribute o "get" apos) [e, f] [] cpos) (fun σ H Q => td σ H fun x H1 => ∃ a xs0, x = .ref a ∧ DnAt X.w H1 a xs0 ∧ ty σ H1 fun y H2 => tx σ H2 fun z H3 => ∃ (kvs : List (D × D)) (xs : List NE) (kd dz : D), keyN kd = true ∧ RepV X.K H3 kd y ∧ RepV X.K H3 dz z ∧ DnAt X.w H3 a xs ∧ DnOk X.K H3 a kvs xs ∧
      ∀ zv, RepV X.K H3 ((dget kvs kd).getD dz) zv → Q zv H3) := by
  refine ⟨fun pins s σ H Q I h => ?_⟩
  refine wpAny_Call_method m.base m.few m.line PySem.F.plainAttrs_dict PySem.F.slot_dict_get PySem.F.type_dict_get (thn (ho.run pins s σ H _ I h) fun u s1 ⟨x, H1, I1, rx, a, xs0, ex, d0, q1⟩ => ?_)
  subst ex
  obtain rfl : u = Value.ref a := rx
  obtain ⟨od, es, ep, hod, hex, hdd, _⟩ := dn_obj I1 d0
  refine ⟨⟨od, hod, hex.1⟩, fun b eb => by cases eb; exact ⟨od, hod, hex.2.1⟩, ?_⟩
  rw [m.trees]
  refine Calls.callWith_builtin rfl (Calls.evalArgs_plain (Calls.spliced_cons (thn (he.run pins s1 σ H1 _ I1 q1) fun iv s2 ⟨y, H2, I2, ry, q2⟩ =>
    Calls.spliced_cons (thn (hf.run pins s2 σ H2 _ I2 q2) fun fv s3 ⟨z, H3, I3, rz, kvs, xs, kd, dz, hk, rk, rd, da, dok, q3⟩ => Calls.spliced_nil ?_))))
  obtain ⟨b, rfl, rfl, hkey⟩ := key_is I3 hk rk ry
  refine getOr_keyed (knd := nestedKind X.prog X.w) (kvs := pairsH xs) (show X.A.units + 1 + 8 < cLine by omega) hkey dok.m ⟨xs, dn_of I3 da dok, rfl⟩ ?_
  rw [valueAt_pairsH]
  cases hg : dget kvs kd with
  | some y =>
    obtain ⟨p, zv, h1, h2, h3⟩ := (dok.r.get hk).1 y hg
    rw [h1]
    exact ⟨zv, H3, I3.tok _, h2, q3 zv (by rw [hg]; exact h3)⟩
  | none =>
    have h1 : atKey xs (nkD kd) = none := by
      have := dok.r.has hk
      unfold dhas at this
      rw [hg] at this
      cases q : atKey xs (nkD kd) with
      | none => rfl
      | some p => rw [q] at this; cases this
    rw [h1]
    exact ⟨z, H3, I3.tok _, rz, q3 z (by rw [hg]; exact rd)⟩
end
section
variable {X : Cx} {T : Tbl} {c : Nat → List Vx → Hs → VK2 → Prop} {cx : Cls2} (hc : CalMono c)
include hc
theorem snd_get2N {o k d : R} {eo ek ed : Expr} {apos cpos : Pos} (hu : X.A.units + 62 < cLine) (hw : cx.w = X.w) (ho : PE X eo (liftE X.K cx (wpE T c o))) (hk : PE X ek (liftE X.K cx (wpE T c k))) (hd : PE X ed (liftE X.K cx (wpE T c d))) (m : M2 X eo "get" apos ek ed cpos) :
    PE X (.Call (.Attribute eo "get" apos) [ek, ed] [] cpos) (liftE X.K cx (wpE T c (.get2N o k d))) :=
  peImp (pe_getN (cx := cx) hu hw ho hk hd m) fun σ H Q ⟨S, σ2, hr, rs, w⟩ => stepE hc hr rs w fun x S1 v H1 hr1 k1 rs1 r1 ⟨a, kvs0, ex, e0, w⟩ => by
    subst ex
    cases r1.1
    obtain ⟨xs0, h0, _⟩ := hr1 a _ e0
    refine ⟨a, xs0, rfl, .inl (by rw [← hw]; exact h0), stepE hc hr1 rs1 w fun y S2 yv H2 hr2 k2 rs2 r2 w => stepE hc hr2 rs2 w fun z S3 zv H3 hr3 k3 rs3 r3 w => ?_⟩
    obtain ⟨kvs, ky, dz, rfl, rfl, hky, e3, q⟩ := w
    obtain ⟨xs, h3, ok3⟩ := hr3 a _ e3
    have ry := RepV.keep (k3.tups hr2) _ _ r2.1
    exact ⟨kvs, xs, ky, dz, hky, ry, r3.1, .inl (by rw [← hw]; exact h3), ok3, fun zv' rz' => let ⟨x', ex', q⟩ := q; by cases ex'; exact fin_d (KVof.of ((k1.trans k2).trans k3) q) hr3 rz'⟩
end
noncomputable def KdOk (K : Frag) (w : World) (mg : Str → Option Value) (x : Str) (kvs : List (List Nat × D)) : Prop :=
  ∃ d es n, mg x = some (.ref d) ∧ KDict K w d es n ∧ ∀ s : List Nat, (kvs.lookup s = none → PySem.W.nsIn K d (sv s) = some none) ∧
    ∀ v, kvs.lookup s = some v → ∃ u vv, PySem.W.nsIn K d (sv s) = some (some u) ∧ RelV vv u ∧ ∀ H, RepV K H v vv
section
variable {X : Cx}
theorem ix_kd {d : Addr} {es : Array DictEntry} {n : Nat} (D : KDict X.K X.w d es n) : IxR X (fun x y H Q => ∃ (z : Str) (u0 : Value) (v0 : V), x = .ref d ∧ y = .str z ∧ PySem.W.nsIn X.K d z = some (some u0) ∧ RelV v0 u0 ∧ Q v0 H) := by
  intro value slice pins s σ H x y v u Q I rx ry h hs
  have g := op_item_kd D pins s σ H x y v u Q I rx ry h
  obtain ⟨z, u0, v0, rfl, rfl, e, r, q⟩ := h
  cases rx
  exact tail_any (kd_type D I) slot_dict_getitem.lookup g hs
end
section
variable {X : Cx} {T : Tbl} {c : Nat → List Vx → Hs → VK2 → Prop} {cx : Cls2} (hc : CalMono c)
include hc
theorem snd_kmem {neg : Bool} {op : CmpOp} (ho : (match op with | .In => !neg | .NotIn => neg | _ => false) = true) {k : Nat} {a : R} {ea : Expr} {x : Str} {p pos : Pos} (hd : KdOk X.K X.w X.mg x (T.kd k)) (hg : Gl X x) (hx : (x == ("__debug__" : Str)) = false) (ha : PE X ea (liftE X.K cx (wpE T c a))) :
    PE X (.Compare ea [op] [.Name x p] pos) (liftE X.K cx (wpE T c (.kmem neg k a))) := by
  obtain ⟨d, es, n, hm, D, hk⟩ := hd
  cases op with
  | In =>
    have hn : neg = false := by simpa using ho
    subst hn
    refine peImp (pe_cmpR (op_in_kd D) ha (pe_glob (v := .ref d) hg hm rfl hx) rfl) fun σ H Q ⟨S, σ2, hr, rs, w⟩ => stepE hc hr rs w fun y S1 v H1 hr1 k1 rs1 r1 ⟨s, ey, q⟩ => ?_
    subst ey
    cases r1.1
    cases hl : (T.kd k).lookup s with
    | none => exact ⟨sv s, none, rfl, rfl, (hk s).1 hl, kE_bl hc (by rw [hl] at q; exact q) k1 hr1⟩
    | some z =>
      obtain ⟨u, vv, h1, _⟩ := (hk s).2 z hl
      exact ⟨sv s, some u, rfl, rfl, h1, kE_bl hc (by rw [hl] at q; exact q) k1 hr1⟩
  | NotIn =>
    have hn : neg = true := by simpa using ho
    subst hn
    refine peImp (pe_cmpR (op_notIn_kd D) ha (pe_glob (v := .ref d) hg hm rfl hx) rfl) fun σ H Q ⟨S, σ2, hr, rs, w⟩ => stepE hc hr rs w fun y S1 v H1 hr1 k1 rs1 r1 ⟨s, ey, q⟩ => ?_
    subst ey
    cases r1.1
    cases hl : (T.kd k).lookup s with
    | none => exact ⟨sv s, none, rfl, rfl, (hk s).1 hl, kE_bl hc (by rw [hl] at q; exact q) k1 hr1⟩
    | some z =>
      obtain ⟨u, vv, h1, _⟩ := (hk s).2 z hl
      exact ⟨sv s, some u, rfl, rfl, h1, kE_bl hc (by rw [hl] at q; exact q) k1 hr1⟩
  | _ => cases ho
theorem tst_kmem {neg : Bool} {op : CmpOp} (ho : (match op with | .In => !neg | .NotIn => neg | _ => false) = true) {k : Nat} {a : R} {ea : Expr} {x : Str} {p pos : Pos} (hd : KdOk X.K X.w X.mg x (T.kd k)) (hg : Gl X x) (hx : (x == ("__debug__" : Str)) = false) (ha : PE X ea (liftE X.K cx (wpE T c a))) :
    PT X (.Compare ea [op] [.Name x p] pos) (liftT X.K cx (wpE T c (.kmem neg k a))) := by
  obtain ⟨d, es, n, hm, D, hk⟩ := hd
  cases op with
  | In =>
    have hn : neg = false := by simpa using ho
    subst hn
    refine ptImp (pt_cmpR (op_in_kd D) ha (pe_glob (v := .ref d) hg hm rfl hx) rfl) fun σ H Q ⟨S, σ2, hr, rs, w⟩ => stepE hc hr rs w fun y S1 v H1 hr1 k1 rs1 r1 ⟨s, ey, q⟩ => ?_
    subst ey
    cases r1.1
    obtain ⟨b, e, q⟩ := kT_elim hc q
    cases hl : (T.kd k).lookup s with
    | none =>
      rw [hl] at e
      cases e
      exact ⟨sv s, none, rfl, rfl, (hk s).1 hl, _, rfl, q H1 hr1 k1⟩
    | some z =>
      obtain ⟨u, vv, h1, _⟩ := (hk s).2 z hl
      rw [hl] at e
      cases e
      exact ⟨sv s, some u, rfl, rfl, h1, _, rfl, q H1 hr1 k1⟩
  | NotIn =>
    have hn : neg = true := by simpa using ho
    subst hn
    refine ptImp (pt_cmpR (op_notIn_kd D) ha (pe_glob (v := .ref d) hg hm rfl hx) rfl) fun σ H Q ⟨S, σ2, hr, rs, w⟩ => stepE hc hr rs w fun y S1 v H1 hr1 k1 rs1 r1 ⟨s, ey, q⟩ => ?_
    subst ey
    cases r1.1
    obtain ⟨b, e, q⟩ := kT_elim hc q
    cases hl : (T.kd k).lookup s with
    | none =>
      rw [hl] at e
      cases e
      exact ⟨sv s, none, rfl, rfl, (hk s).1 hl, _, rfl, q H1 hr1 k1⟩
    | some z =>
      obtain ⟨u, vv, h1, _⟩ := (hk s).2 z hl
      rw [hl] at e
      cases e
      exact ⟨sv s, some u, rfl, rfl, h1, _, rfl, q H1 hr1 k1⟩
  | _ => cases ho
theorem snd_kidx {k : Nat} {a : R} {ea : Expr} {x : Str} {p pos : Pos} (hd : KdOk X.K X.w X.mg x (T.kd k)) (hg : Gl X x) (hx : (x == ("__debug__" : Str)) = false) (hp : PlainIx ea) (ha : PE X ea (liftE X.K cx (wpE T c a))) :
    PE X (.Subscript (.Name x p) ea pos) (liftE X.K cx (wpE T c (.kidx k a))) := by
  obtain ⟨d, es, n, hm, D, hk⟩ := hd
  refine peImp (pe_ix (ix_kd D) (pe_glob (v := .ref d) hg hm rfl hx) ha hp) fun σ H Q ⟨S, σ2, hr, rs, w⟩ => show liftE X.K cx (wpE T c a) σ H _ from stepE hc hr rs w fun y S1 v H1 hr1 k1 rs1 r1 ⟨s, z, ey, hl, q⟩ => ?_
  subst ey
  cases r1.1
  obtain ⟨u, vv, h1, h2, h3⟩ := (hk s).2 z hl
  exact ⟨sv s, u, vv, rfl, rfl, h1, h2, let ⟨x', ex', q⟩ := q; by cases ex'; exact fin_d (KVof.of k1 q) hr1 (h3 H1)⟩
end
section
variable {K : Frag} {cx : Cls2} {S S' S1 : Hs} {H H' H1 H0 : Hp} {σ2 : Sl} {σ : L2.St} {B B' : Bs}
theorem RelS.chg (r : RelS B K S H σ2 σ) {i : Nat} {x x' : Vx} {a : Addr} (e : σ2[i]? = some (some x)) (o : own x = true) (e' : σ[i]? = some (some (.ref a))) (hx : RepX K H' S' x' (.ref a)) (hl : lent x' = false)
    (h : ∀ (y : Vx) (v : V), (own y = true → v ≠ .ref a) → (lent y = true → v ≠ .ref a) → RepX K H S y v → RepX K H' S' y v) : RelS B K S' H' (σ2.set i (some x')) σ := by
  have hi := (List.getElem?_eq_some_iff.mp e).1
  obtain ⟨g1, g2, g3⟩ := r.ow i x a e o e'
  have old : ∀ {j : Nat} {y : Vx}, (σ2.set i (some x'))[j]? = some (some y) → (j = i ∧ y = x') ∨ (j ≠ i ∧ σ2[j]? = some (some y)) := fun {j y} ej => by
    by_cases z : j = i
    · subst z; rw [List.getElem?_set_self hi] at ej; cases ej; exact .inl ⟨rfl, rfl⟩
    · rw [List.getElem?_set_ne (Ne.symm z)] at ej; exact .inr ⟨z, ej⟩
  refine ⟨⟨by simp [r.rx.1], fun j y ej => ?_⟩, fun j y b ej oj ej' => ?_, fun j y b ej lj ej' => ?_⟩
  · rcases old ej with ⟨rfl, rfl⟩ | ⟨z, ej⟩
    · exact ⟨_, e', hx⟩
    · obtain ⟨v, h1, h2⟩ := r.rx.2 j y ej
      exact ⟨v, h1, h y v (fun oj ev => z (g3 j y ej oj (ev ▸ h1))) (fun lj ev => g1 (r.lt j y a ej lj (ev ▸ h1))) h2⟩
  · rcases old ej with ⟨rfl, rfl⟩ | ⟨z, ej⟩
    · rw [e'] at ej'; cases ej'
      refine ⟨g1, g2, fun k w ek ok ek' => ?_⟩
      rcases old ek with ⟨rfl, rfl⟩ | ⟨zk, ek⟩
      · rfl
      · exact g3 k w ek ok ek'
    · obtain ⟨f1, f2, f3⟩ := r.ow j y b ej oj ej'
      refine ⟨f1, f2, fun k w ek ok ek' => ?_⟩
      rcases old ek with ⟨rfl, rfl⟩ | ⟨zk, ek⟩
      · exact f3 k x e o ek'
      · exact f3 k w ek ok ek'
  · rcases old ej with ⟨rfl, rfl⟩ | ⟨z, ej⟩
    · rw [hl] at lj; cases lj
    · exact r.lt j y b ej lj ej'
theorem own_mut (hr : Rel K cx S H) (r : RelS B K S H σ2 σ) (kb : KeepB B S H) {i : Nat} {x : Vx} {a : Addr} {c' : Cn} (e : σ2[i]? = some (some x)) (o : own x = true) (e' : σ[i]? = some (some (.ref a))) (m : MOut K cx H a c' H')
    (hc : (∃ ds, c' = .l ds) ∨ ∃ kvs, c' = .k kvs) : Rel K cx S H' ∧ RelS B K S H' (σ2.set i (some c'.v)) σ ∧ KeepB B S H' := by
  obtain ⟨h', rfl, hcn, hs⟩ := m
  obtain ⟨hn, sn⟩ := r.rx.ownH e o e'
  obtain ⟨g1, g2, g3⟩ := r.ow i x a e o e'
  have t : TupS K H (upd H a h') := tupS_upd hs
  refine ⟨hr.upd0 sn t, r.chg e o e' ?_ ?_ fun y v n1 n2 ry => ?_, ⟨fun b z => ?_, fun b z => kb.hn b ?_⟩⟩
  · rcases hc with ⟨ds, rfl⟩ | ⟨kvs, rfl⟩
    · obtain ⟨p, vs, ep, h, rl⟩ := hcn; cases ep; exact ⟨a, vs, rfl, h, sn, rl⟩
    · obtain ⟨p, vs, ep, h, rl⟩ := hcn; cases ep; exact ⟨a, vs, rfl, h, sn, rl⟩
  · rcases hc with ⟨ds, rfl⟩ | ⟨kvs, rfl⟩ <;> rfl
  · cases y with
    | d d => exact RepV.keep t _ _ ry
    | vl ds => obtain ⟨b, vs, rfl, h, n, rl⟩ := ry; exact ⟨b, vs, rfl, by rw [upd_ne fun z => n1 rfl (by rw [z])]; exact h, n, rl.keep t⟩
    | bw ds => obtain ⟨b, vs, rfl, h, n, rl⟩ := ry; exact ⟨b, vs, rfl, by rw [upd_ne fun z => n2 rfl (by rw [z])]; exact h, n, rl.keep t⟩
    | vd ds => obtain ⟨b, vs, rfl, h, n, rl⟩ := ry; exact ⟨b, vs, rfl, by rw [upd_ne fun z => n1 rfl (by rw [z])]; exact h, n, rl.keep t⟩
    | bd ds => obtain ⟨b, vs, rfl, h, n, rl⟩ := ry; exact ⟨b, vs, rfl, by rw [upd_ne fun z => n2 rfl (by rw [z])]; exact h, n, rl.keep t⟩
    | fz ds =>
      obtain ⟨b, vs, rfl, h, rl⟩ := ry
      refine ⟨b, vs, rfl, ?_, rl.keep t⟩
      rcases h with ⟨ob, h, n⟩ | h
      · refine .inl ⟨ob, ?_, n⟩
        rw [upd_ne]
        · exact h
        · rintro rfl
          have := hs _ h
          cases this
      · exact .inr h
    | st ds => exact ry.elim
  · obtain ⟨f1, f2, f3⟩ := kb.st b z
    have ne : b ≠ a := fun q => g1 (q ▸ z)
    exact ⟨f1, by rw [upd_ne ne]; exact f2, by rw [upd_ne ne]; exact f3⟩
  · by_cases ne : b = a
    · subst ne; rw [upd_same] at z; cases z
    · rw [upd_ne ne] at z; exact z
theorem trk_mut (r : RelS B K S H σ2 σ) (hr : Rel K cx S H) (kb : KeepB B S H) {a : Addr} {ob o' : O} {h' : HO} (e : S a = some ob) (hs : ∀ o, H a = some o → seqish o = false) (hq : RelO K cx (upd H a h') a o') :
    Rel K cx (su S a o') (upd H a h') ∧ Keep S (su S a o') H (upd H a h') := by
  refine ⟨hr.upd1 (tupS_upd hs) hq, fun b o z n => ?_, fun b z => ?_⟩
  · have ne : b ≠ a := fun z => by subst z; rw [e] at n; cases n
    exact ⟨by rw [upd_ne ne]; exact z, by rw [su_ne ne]; exact n⟩
  · by_cases ne : b = a
    · subst ne; rw [upd_same] at z; cases z
    · rw [upd_ne ne] at z; exact z
theorem mutC_lk {m : M} {c : Cn} {xs : List Vx} {P : Cn → D → Prop} (hn : ∀ k, c ≠ .kn k) (w : mutC m c xs S P) : mutC m c xs S fun c' r => ((∃ ds, c' = .l ds) ∨ ∃ kvs, c' = .k kvs) ∧ P c' r := by
  unfold mutC at w ⊢
  split at w
  · exact ⟨w.1, .inl ⟨_, rfl⟩, w.2⟩
  · obtain ⟨y, e, q⟩ := w; exact ⟨y, e, .inl ⟨_, rfl⟩, q⟩
  · obtain ⟨y, e, q⟩ := w; exact ⟨y, e, .inl ⟨_, rfl⟩, q⟩
  · exact ⟨w.1, .inl ⟨_, rfl⟩, w.2⟩
  · exact ⟨w.1, .inl ⟨_, rfl⟩, w.2⟩
  · exact ⟨w.1, w.2.1, .inr ⟨_, rfl⟩, w.2.2⟩
  · exact (hn _ rfl).elim
  · exact ⟨w.1, w.2.1, .inl ⟨_, rfl⟩, w.2.2⟩
  · exact view_mono (fun c ⟨n, e, z, q⟩ => ⟨n, e, z, .inl ⟨_, rfl⟩, q⟩) w
  · exact ⟨.inl ⟨_, rfl⟩, w⟩
  · obtain ⟨ns, j, e1, e2, e3, q⟩ := w; exact ⟨ns, j, e1, e2, e3, .inl ⟨_, rfl⟩, q⟩
  · exact w.elim
theorem putF_rel {f : Str} {d : D} {v : V} (rv : RepV K H d v) : ∀ (fv : List (Str × V)) (ns : List Str) (k : Nat) (fs : List D), ns.Nodup → fv.map Prod.fst = ns.take fs.length → fs.length ≤ ns.length → ns[k]? = some f → k ≤ fs.length → RepL K H fs (fv.map Prod.snd) →
    (putF f v fv).map Prod.fst = ns.take (setF fs k d).length ∧ (setF fs k d).length ≤ ns.length ∧ RepL K H (setF fs k d) ((putF f v fv).map Prod.snd)
  | [], ns, k, fs, nd, hm, hl, hk, hle, r => by
    have e : fs = [] := by cases fs with | nil => rfl | cons d ds => obtain ⟨_, _, q, _⟩ := r; cases q
    subst e
    have e : k = 0 := by simpa using hle
    subst e
    cases ns with
    | nil => simp at hk
    | cons n ns =>
      simp at hk; subst hk
      exact ⟨rfl, by simp [setF], ⟨v, [], rfl, rv, rfl⟩⟩
  | (g, u) :: fr, ns, k, fs, nd, hm, hl, hk, hle, r => by
    cases fs with
    | nil => simp at hm
    | cons d0 fs =>
      obtain ⟨v0, vr, ev, r0, rr⟩ := r
      simp at ev
      obtain ⟨rfl, rfl⟩ := ev
      cases ns with
      | nil => simp at hm
      | cons n ns =>
        simp at hm
        obtain ⟨rfl, hm⟩ := hm
        cases k with
        | zero =>
          simp at hk; subst hk
          have e1 : putF g v ((g, u) :: fr) = (g, v) :: fr := by show (if g = g then _ else _) = _; rw [if_pos rfl]
          have e2 : setF (d0 :: fs) 0 d = d :: fs := by show (if 0 = (d0 :: fs).length then _ else _) = _; rw [if_neg (by simp)]; rfl
          rw [e1, e2]
          exact ⟨by simp [hm], by simpa using hl, ⟨v, _, rfl, rv, rr⟩⟩
        | succ k =>
          have hk : ns[k]? = some f := by simpa using hk
          have ne : ¬ g = f := fun z => (List.nodup_cons.mp nd).1 (z ▸ List.mem_of_getElem? hk)
          have e1 : putF f v ((g, u) :: fr) = (g, u) :: putF f v fr := by show (if g = f then _ else _) = _; rw [if_neg ne]
          have e2 : setF (d0 :: fs) (k + 1) d = d0 :: setF fs k d := by
            unfold setF
            by_cases z : k = fs.length
            · rw [if_pos z, if_pos (by simp [z])]; rfl
            · rw [if_neg z, if_neg (by simpa using z)]; rfl
          obtain ⟨h1, h2, h3⟩ := putF_rel rv fr ns k fs (List.nodup_cons.mp nd).2 hm (by simpa using hl) hk (by simpa using hle) rr
          rw [e1, e2]
          exact ⟨by simp [h1], by simpa using h2, ⟨u, _, rfl, r0, h3⟩⟩
end
section
variable {X : Cx} {T : Tbl} {c : Nat → List Vx → Hs → VK2 → Prop} {cx : Cls2} (hc : CalMono c)
include hc
theorem stepBx {K : Frag} {S S1 : Hs} {H H1 : Hp} {σ2 : Sl} {σ : L2.St} {B : Bs} {x : Vx} {v : V} {P : D → Hs → Prop} (hr : Rel K cx S H) (rs : RelS B K S H σ2 σ) (kb : KeepB B S H) (hr1 : Rel K cx S1 H1) (k1 : Keep S S1 H H1) (r : RepR K H H1 S1 x v) (w : bx x S1 P) :
    ∃ d S2, P d S2 ∧ Rel K cx S2 H1 ∧ RepV K H1 d v ∧ RelS B K S2 H1 σ2 σ ∧ KeepB B S2 H1 := by
  obtain ⟨d, S2, w, hr2, k2, r2, _⟩ := rel_box hc hr1 k1 r w
  exact ⟨d, S2, w, hr2, r2, rs.keep k2 hr, kb.keep k2⟩
theorem st_seti {o k e : R} {st : Stmt} (h : PS X st (tAsg (liftE X.K cx (wpE T c e)) (gSub (liftE X.K cx (wpE T c o)) (liftE X.K cx (wpE T c k)) (pset X.K cx)))) : PS X st (liftS X.K cx (wpS T c (.seti o k e))) :=
  psImp h fun D σ H ⟨B, S, σ2, hr, rs, kb, w⟩ => stepSE hc hr rs kb w fun y S1 v H1 hr1 k1 rs1 kb1 r1 w => by
    obtain ⟨d, S2, w, hr2, rd, rs2, kb2⟩ := stepBx hc hr rs kb hr1 k1 r1 w
    refine stepSE hc hr2 rs2 kb2 w fun x S3 xv H3 hr3 k3 rs3 kb3 r3 w => stepSE hc hr3 rs3 kb3 w fun z S4 zv H4 hr4 k4 rs4 kb4 r4 ⟨a, ob, kd, ex, ea, ez, w2⟩ => ?_
    subst ex ez
    cases r3.1
    obtain rk : RepV X.K H4 kd zv := r4.1
    have rd4 := RepV.keep (k4.tups hr3) _ _ (RepV.keep (k3.tups hr2) _ _ rd)
    have z := hr4 a ob ea
    have hcn : CnR X.K cx H4 ob.cn (.ref a) := by
      cases ob with
      | lst ds => obtain ⟨us, h, r⟩ := z; exact ⟨a, us, rfl, h, r⟩
      | dic ds => obtain ⟨us, h, r⟩ := z; exact ⟨a, us, rfl, h, r⟩
      | fdc ds y => obtain ⟨h, o, ks, e1, r⟩ := z; subst e1; exact ⟨a, ks, o, rfl, h, r⟩
      | dn ds => obtain ⟨us, h, r⟩ := z; exact ⟨a, us, rfl, h, r⟩
      | fdn ds y ks => obtain ⟨h, o, e1, r⟩ := z; subst e1; exact ⟨a, ks, o, rfl, h, r⟩
      | ins ci fs => exact ⟨a, rfl, z⟩
    refine ⟨S4, ob.cn, a, kd, d, hr4, rfl, hcn, rk, rd4, mutC_mono (fun c' r ⟨o', ho', w⟩ H' mo => ?_) w2⟩
    obtain ⟨h1, h2⟩ := mout_rel hr4 ea mo ho'
    exact w B σ H' .refl h1 (rs4.keep h2 hr4) (kb4.keep h2)
theorem st_slcset {o e : R} {st : Stmt} (h : PS X st (tAsg (liftE X.K cx (wpE T c e)) (gSlA X.K (liftE X.K cx (wpE T c o))))) : PS X st (liftS X.K cx (wpS T c (.slcset o e))) :=
  psImp h fun D σ H ⟨B, S, σ2, hr, rs, kb, w⟩ => stepSE hc hr rs kb w fun y S1 v H1 hr1 k1 rs1 kb1 r1 ⟨b, ey, w⟩ => by
    subst ey
    cases r1.1
    refine stepSE hc hr1 rs1 kb1 w fun x S2 xv H2 hr2 k2 rs2 kb2 r2 ⟨a, xs, ys, ex, ea, eb, hne, hz, q⟩ => ?_
    subst ex
    cases r2.1
    obtain ⟨us, g1, ru⟩ := hr2 a _ ea
    obtain ⟨vs, g2, rv⟩ := hr2 b _ eb
    refine ⟨a, b, us, vs, rfl, rfl, g1, g2, hne, by rw [← ru.length, ← rv.length]; exact hz, ?_⟩
    have hs : ∀ o, H2 a = some o → seqish o = false := fun o e => by rw [g1] at e; cases e; rfl
    obtain ⟨q1, q2⟩ := trk_mut (h' := .lst vs) (o' := .lst ys) rs2 hr2 kb2 ea hs ⟨vs, upd_same, rv.keep (tupS_upd hs)⟩
    exact q B σ _ .refl q1 (rs2.keep q2 hr2) (kb2.keep q2)
theorem ownC_of {x : Vx} {P : Cn → Prop} (h : ownC x P) : ∃ cn, P cn ∧ own x = true ∧ ((∃ ds, x = .vl ds ∧ cn = .l ds) ∨ ∃ kvs, x = .vd kvs ∧ cn = .k kvs) := by
  cases x <;> first | exact ⟨_, h, rfl, .inl ⟨_, rfl, rfl⟩⟩ | exact ⟨_, h, rfl, .inr ⟨_, rfl, rfl⟩⟩ | exact h.elim
theorem own_cn {K : Frag} {H : Hp} {S : Hs} {x : Vx} {v : V} {cn : Cn} (r : RepX K H S x v) (h : (∃ ds, x = .vl ds ∧ cn = .l ds) ∨ ∃ kvs, x = .vd kvs ∧ cn = .k kvs) : ∃ a, v = .ref a ∧ CnR K cx H cn (.ref a) := by
  rcases h with ⟨ds, rfl, rfl⟩ | ⟨kvs, rfl, rfl⟩
  · obtain ⟨a, vs, rfl, h, n, rl⟩ := r; exact ⟨a, rfl, a, vs, rfl, h, rl⟩
  · obtain ⟨a, vs, rfl, h, n, rl⟩ := r; exact ⟨a, rfl, a, vs, rfl, h, rl⟩
theorem st_oseti {i : Nat} {k e : R} {st : Stmt} (h : PS X st (tAsg (liftE X.K cx (wpE T c e)) (gSub (tVar i) (liftE X.K cx (wpE T c k)) (pset X.K cx)))) : PS X st (liftS X.K cx (wpS T c (.oseti i k e))) :=
  psImp h fun D σ H ⟨B, S, σ2, hr, rs, kb, w⟩ => stepSE hc hr rs kb w fun y S1 v H1 hr1 k1 rs1 kb1 r1 w => by
    obtain ⟨d, S2, w, hr2, rd, rs2, kb2⟩ := stepBx hc hr rs kb hr1 k1 r1 w
    obtain ⟨x, ex, w⟩ := w
    obtain ⟨xv, exv, rx⟩ := rs2.rx.2 i x ex
    refine ⟨xv, exv, stepSE hc hr2 rs2 kb2 w fun z S4 zv H4 hr4 k4 rs4 kb4 r4 ⟨kd, ez, w⟩ => ?_⟩
    subst ez
    have rd4 := RepV.keep (k4.tups hr2) _ _ rd
    obtain ⟨cn, w, ho, hcs⟩ := ownC_of hc w
    obtain ⟨a, rfl, hcn⟩ := own_cn (cx := cx) hc (rx.keep k4 hr2) hcs
    refine ⟨S4, cn, a, kd, d, hr4, rfl, hcn, r4.1, rd4, mutC_mono (fun c' r ⟨hlk, w⟩ H' mo => ?_) (mutC_lk (fun k e => by subst e; rcases hcs with ⟨ds, _, q⟩ | ⟨ds, _, q⟩ <;> cases q) w)⟩
    obtain ⟨h1, h2, h3⟩ := own_mut hr4 rs4 kb4 ex ho exv mo hlk
    exact w B σ H' .refl h1 h2 h3
theorem st_om {m : M} {i : Nat} {as : R} {st : Stmt} {es : List Expr} {te : TE} (ht : ∀ σ H Q, tBM X.K "list" (mOf X.K cx m) (tVar i) (liftA X.K cx (wpE T c as)) σ H Q → te σ H Q) (dst : Option Nat) (h : PS X st (match dst with
    | none => tDrop te
    | some j => tAsg te (gName j))) : PS X st (liftS X.K cx (wpS T c (.om m i as dst))) :=
  psImp h fun D σ H ⟨B, S, σ2, hr, rs, kb, ds, ex, w⟩ => by
    obtain ⟨xv, exv, rx⟩ := rs.rx.2 i _ ex
    have key : ∀ Q : VK, (∀ r H' v, (∃ (S' : Hs) (σ2' : Sl), Rel X.K cx S' H' ∧ RelS B X.K S' H' σ2' σ ∧ KeepB B S' H' ∧ RepV X.K H' r v ∧ nxS X.K cx B D.nx (dstS dst r σ2') S') → Q v H') → te σ H Q := fun Q q => by
      have rx0 := rx
      obtain ⟨a, vs, rfl, ha, na, rl⟩ := rx
      refine ht _ _ _ ⟨_, exv, .inl ⟨rfl, vs, SqL.of ha⟩, stepA hc hr rs.rx w fun xs S1 vs1 H1 hr1 k1 rs1 r1 w => ?_⟩
      obtain ⟨h1, h2⟩ := k1.kp _ _ ha na
      refine ⟨S1, .l ds, a, xs, hr1, rfl, ⟨a, vs, rfl, h1, rl.keep (k1.tups hr)⟩, r1, mutC_mono (fun c' r ⟨hlk, w⟩ H' v mo rv => ?_) (mutC_lk (fun k e => by cases e) w)⟩
      obtain ⟨h1, h2, h3⟩ := own_mut hr1 (rs.keep k1 hr) (kb.keep k1) ex rfl exv mo hlk
      exact q r H' v ⟨S1, _, h1, h2, h3, rv, w⟩
    cases dst with
    | none => exact key _ fun r H' v ⟨S', σ2', h1, h2, h3, rv, w⟩ => w B σ H' .refl h1 h2 h3
    | some j => exact key _ fun r H' v ⟨S', σ2', h1, h2, h3, rv, w⟩ => w B _ H' .refl h1 (h2.setD rv) h3
theorem st_fset {o e : R} {ci k : Nat} {f : Str} {eo ee : Expr} {pos' pos : Pos} (ok : ClsOk X.K cx ci) (hf : (cx.lay ci)[k]? = some f) (ho : PE X eo (liftE X.K cx (wpE T c o))) (he : PE X ee (liftE X.K cx (wpE T c e))) (hs : swapsWith ee (some (.Attribute eo f pos')) pos.line X.env = pure false) :
    PS X (.Assign [.Attribute eo f pos'] ee pos) (liftS X.K cx (wpS T c (.fset o ci k e))) :=
  psImp (ps_fld ho he hs) fun D σ H ⟨B, S, σ2, hr, rs, kb, w⟩ => stepSE hc hr rs kb w fun y S1 v H1 hr1 k1 rs1 kb1 r1 w => by
    obtain ⟨d, S2, w, hr2, rd, rs2, kb2⟩ := stepBx hc hr rs kb hr1 k1 r1 w
    refine stepSE hc hr2 rs2 kb2 w fun x S3 xv H3 hr3 k3 rs3 kb3 r3 ⟨a, fs, ex, ea, hle, w⟩ => ?_
    subst ex
    cases r3.1
    obtain ⟨dx, fv, h1, h2, h3, h4⟩ := hr3 a _ ea
    have rd3 := RepV.keep (k3.tups hr2) _ _ rd
    obtain ⟨g1, g2, g3⟩ := putF_rel rd3 fv _ k fs ok.nd h2 h3 hf hle h4
    have hl : fv.length < 1000 := by have := h4.length; have := ok.few; simp at *; omega
    refine ⟨a, _, dx, fv, rfl, h1, ok.cl, ok.no f (List.mem_of_getElem? hf), hl, ?_⟩
    have hs : ∀ o, H3 a = some o → seqish o = false := fun o e => by rw [h1] at e; cases e; rfl
    obtain ⟨q1, q2⟩ := trk_mut (h' := .ins (cx.adr ci) dx (putF f v fv)) (o' := .ins ci (setF fs k d)) rs3 hr3 kb3 ea hs ⟨dx, _, upd_same, g1, g2, g3.keep (tupS_upd hs)⟩
    exact w B σ _ .refl q1 (rs3.keep q2 hr3) (kb3.keep q2)
omit hc in
noncomputable def gFld (K : Frag) (ta : TE) (f : Str) : TG := fun v σ H Q => ta σ H fun x H2 => ∃ a C dx fs, x = .ref a ∧ H2 a = some (.ins C dx fs) ∧ Cls K C ∧ NoAttr K C f ∧ fs.length < 1000 ∧ Q σ (upd H2 a (.ins C dx (putF f v fs)))
omit hc in
theorem pg_fld {o : Expr} {f : Str} {pos : Pos} {ta : TE} (ho : PE X o ta) : PG X (.Attribute o f pos) (gFld X.K ta f) := by
  refine ⟨fun pins s σ H v u Q I r h => ?_⟩
  rw [assign_Attribute]
  refine wpAny_bind (wpAny_holding (thn (ho.run pins s σ H _ I h) fun ov s1 ⟨x, H1, I1, r1, a, C, dx, fs, ex, ea, c, n, l, q⟩ => ?_))
  subst ex
  obtain rfl : ov = Value.ref a := r1
  refine wpAny_bind (wpAny_standAt (wpAny_bind (wpAny_holding (setattr_ok I1 ea c n l r fun s3 I3 => ?_))))
  exact wpAny_release ⟨σ, _, I3, q⟩
theorem st_setNAN {o e : R} {i j ci k : Nat} {x y f : Str} {eo ee : Expr} {px py pa pt pos : Pos} {kt : Nat} (hcalm : X.calm = true) (ok : ClsOk X.K cx ci) (hf : (cx.lay ci)[k]? = some f) (g1 : PG X (.Name x px) (gName i)) (g2 : PG X (.Name y py) (gName j)) (ho : PE X eo (liftE X.K cx (wpE T c o))) (he : PE X ee (liftE X.K cx (wpE T c e)))
    (hs : swapsWithSole [.Tuple [.Name x px, .Attribute eo f pa, .Name y py] kt pt] ee pos.line X.env = pure false) (hw : swappedStores [.Tuple [.Name x px, .Attribute eo f pa, .Name y py] kt pt] ee X.env = pure none) :
    PS X (.Assign [.Tuple [.Name x px, .Attribute eo f pa, .Name y py] kt pt] ee pos) (liftS X.K cx (wpS T c (.setNAN i o ci k j e))) :=
  psImp (ps_asg he (pg_seq hcalm (pgs_cons g1 (pgs_cons (pg_fld ho) (pgs_cons g2 pgs_nil rfl) rfl) rfl) rfl rfl) hs hw rfl) fun D σ H ⟨B, S, σ2, hr, rs, kb, w⟩ => stepSE hc hr rs kb w fun x S1 v H1 hr1 k1 rs1 kb1 r1 w => by
    obtain ⟨cn, ⟨d0, d1, d2, e1, w⟩, hcn⟩ := view_of hr1 r1.1 w
    have key : ∀ (a : Addr) (vs : List V), v = .ref a → (SqL X.K H1 a vs ∨ SqT X.K H1 a vs) → RepL X.K H1 [d0, d1, d2] vs → gSeq X.K 3 (gCons (gName i) (gCons (gFld X.K (liftE X.K cx (wpE T c o)) f) (gCons (gName j) gNil))) v σ H1 D.nx := fun a vs ev hs r => by
      obtain ⟨v0, v1, v2, rfl, h0, h1, h2⟩ : ∃ v0 v1 v2, vs = [v0, v1, v2] ∧ RepV X.K H1 d0 v0 ∧ RepV X.K H1 d1 v1 ∧ RepV X.K H1 d2 v2 := by
        obtain ⟨v0, r0, rfl, h0, r⟩ := r
        obtain ⟨v1, r1, rfl, h1, r⟩ := r
        obtain ⟨v2, r2, rfl, h2, r⟩ := r
        cases r
        exact ⟨_, _, _, rfl, h0, h1, h2⟩
      refine ⟨a, [v0, v1, v2], ev, hs, rfl, v0, _, rfl, v1, _, rfl, stepSE hc hr1 (rs1.setD h0) kb1 w fun y S3 xv H3 hr3 k3 rs3 kb3 r3 ⟨b, fs, ex, ea, hle, w⟩ => ?_⟩
      subst ex
      cases r3.1
      obtain ⟨dx, fv, q1, q2, q3, q4⟩ := hr3 b _ ea
      have rd3 := RepV.keep (k3.tups hr1) _ _ h1
      have rv3 := RepV.keep (k3.tups hr1) _ _ h2
      obtain ⟨g1, g2, g3⟩ := putF_rel rd3 fv _ k fs ok.nd q2 q3 hf hle q4
      have hl : fv.length < 1000 := by have := q4.length; have := ok.few; simp at *; omega
      refine ⟨b, _, dx, fv, rfl, q1, ok.cl, ok.no f (List.mem_of_getElem? hf), hl, v2, [], rfl, rfl, ?_⟩
      have hs : ∀ o, H3 b = some o → seqish o = false := fun o e => by rw [q1] at e; cases e; rfl
      obtain ⟨p1, p2⟩ := trk_mut (h' := .ins (cx.adr ci) dx (putF f v1 fv)) (o' := .ins ci (setF fs k d1)) rs3 hr3 kb3 ea hs ⟨dx, _, upd_same, g1, g2, g3.keep (tupS_upd hs)⟩
      exact w B _ _ .refl p1 ((rs3.keep p2 hr3).setD (RepV.keep (p2.tups hr3) _ _ rv3)) (kb3.keep p2)
    cases cn with
    | l ds' => cases e1; obtain ⟨p, vs, ev, h, r⟩ := hcn; exact key p vs ev (.inl (SqL.of h)) r
    | f ds' => cases e1; obtain ⟨p, vs, ev, h, r⟩ := hcn; exact key p vs ev (.inl h) r
    | t ds' => cases e1; obtain ⟨p, vs, ev, h, r⟩ := hcn; exact key p vs ev (.inr h) r
    | _ => cases e1
theorem st_faug {o e : R} {ci k : Nat} {f : Str} {eo ee : Expr} {tpos pos : Pos} (ok : ClsOk X.K cx ci) (hf : (cx.lay ci)[k]? = some f) (ho : PE X eo (liftE X.K cx (wpE T c o))) (he : PE X ee (liftE X.K cx (wpE T c e))) :
    PS X (.AugAssign (.Attribute eo f tpos) .Add ee pos) (liftS X.K cx (wpS T c (.faug o ci k e))) :=
  psImp (ps_fldaug ho he in_add) fun D σ H ⟨B, S, σ2, hr, rs, kb, w⟩ => stepSE hc hr rs kb w fun x S1 xv H1 hr1 k1 rs1 kb1 r1 ⟨a, fs, i, ex, ea, ef, w⟩ => by
    subst ex
    cases r1.1
    obtain ⟨dx, fv, h1, h2, h3, h4⟩ := hr1 a _ ea
    obtain ⟨u, h5, h6⟩ := lookup_fld hc ok.nd h2 hf h4 ef
    cases h6
    refine ⟨a, _, dx, fv, _, rfl, h1, ok.cl, ok.no f (List.mem_of_getElem? hf), h5, stepSE hc hr1 rs1 kb1 w fun y S2 yv H2 hr2 k2 rs2 kb2 r2 ⟨j, fs', ey, ea', hlt, w⟩ => ?_⟩
    subst ey
    cases r2.1
    refine ⟨i, j, rfl, rfl, ?_⟩
    obtain ⟨dx', fv', g1, g2, g3, g4⟩ := hr2 a _ ea'
    obtain ⟨p1, p2, p3⟩ := putF_rel (d := .int (i + j)) (v := .int (i + j)) rfl fv' _ k fs' ok.nd g2 g3 hf (Nat.le_of_lt hlt) g4
    have hl : fv'.length < 1000 := by have := g4.length; have := ok.few; simp at *; omega
    refine ⟨dx', fv', g1, hl, ?_⟩
    have hs : ∀ o, H2 a = some o → seqish o = false := fun o e => by rw [g1] at e; cases e; rfl
    obtain ⟨q1, q2⟩ := trk_mut (h' := .ins (cx.adr ci) dx' (putF f (.int (i + j)) fv')) (o' := .ins ci (setF fs' k (.int (i + j)))) rs2 hr2 kb2 ea' hs ⟨dx', _, upd_same, p1, p2, p3.keep (tupS_upd hs)⟩
    exact w B σ _ .refl q1 (rs2.keep q2 hr2) (kb2.keep q2)
theorem st_box {i : Nat} {D : Ends} {σ : L2.St} {H : Hp} {r : R} (w : liftS X.K cx (wpS T c (.seq (.box i) r)) D σ H) : liftS X.K cx (wpS T c r) D σ H := by
  obtain ⟨B, S, σ2, hr, rs, kb, x, ex, w⟩ := w
  obtain ⟨xv, exv, rx⟩ := rs.rx.2 i _ ex
  have same : ∀ d, x = .d d → σ2.set i (some (.d d)) = σ2 := fun d e => by
    subst e
    obtain ⟨hi, e⟩ := List.getElem?_eq_some_iff.mp ex
    rw [← e]; exact List.set_getElem_self hi
  have go : ∀ (a : Addr) (o : O), own x = true → xv = .ref a → RelO X.K cx H a o → wpS T c r (σ2.set i (some (.d (.ref a)))) (su S a o) (nxS X.K cx B D.nx) (rtS X.K cx B D.rt) (nxS X.K cx B D.bk) (nxS X.K cx B D.ct) → liftS X.K cx (wpS T c r) D σ H := fun a o hx e ro w => by
    subst e
    obtain ⟨g1, g2, g3⟩ := rs.ow i x a ex hx exv
    refine ⟨B, su S a o, _, hr.box ro, rs.chg (x' := .d (.ref a)) ex hx exv (show RepV X.K H (.ref a) (.ref a) from rfl) rfl fun y v n1 n2 ry => ?_, ⟨fun b z => ?_, kb.hn⟩, w⟩
    · cases y with
      | d d => exact ry
      | vl ds => obtain ⟨b, vs, rfl, h, n, rl⟩ := ry; exact ⟨b, vs, rfl, h, by rw [su_ne fun z => n1 rfl (by rw [z])]; exact n, rl⟩
      | bw ds => obtain ⟨b, vs, rfl, h, n, rl⟩ := ry; exact ⟨b, vs, rfl, h, by rw [su_ne fun z => n2 rfl (by rw [z])]; exact n, rl⟩
      | vd ds => obtain ⟨b, vs, rfl, h, n, rl⟩ := ry; exact ⟨b, vs, rfl, h, by rw [su_ne fun z => n1 rfl (by rw [z])]; exact n, rl⟩
      | bd ds => obtain ⟨b, vs, rfl, h, n, rl⟩ := ry; exact ⟨b, vs, rfl, h, by rw [su_ne fun z => n2 rfl (by rw [z])]; exact n, rl⟩
      | fz ds =>
        obtain ⟨b, vs, rfl, h, rl⟩ := ry
        refine ⟨b, vs, rfl, ?_, rl⟩
        rcases h with ⟨ob, h, n⟩ | h
        · refine .inl ⟨ob, h, ?_⟩
          rw [su_ne]
          · exact n
          · rintro rfl
            obtain ⟨h', z, s⟩ := ro.some
            rw [h] at z; cases z; cases s
        · exact .inr h
      | st ds => exact ry.elim
    · obtain ⟨f1, f2, f3⟩ := kb.st b z
      exact ⟨by rw [su_ne fun q : b = a => g1 (by rw [← q]; exact z)]; exact f1, f2, f3⟩
  cases x with
  | d d => exact ⟨B, S, σ2, hr, rs, kb, by
    have w : wpS T c r (σ2.set i (some (.d d))) S (nxS X.K cx B D.nx) (rtS X.K cx B D.rt) (nxS X.K cx B D.bk) (nxS X.K cx B D.ct) := w
    rw [same d rfl] at w; exact w⟩
  | vl ds => obtain ⟨a, vs, rfl, h, n, rl⟩ := rx; exact go a (.lst ds) rfl rfl ⟨vs, h, rl⟩ (w a n)
  | vd ds => obtain ⟨a, vs, rfl, h, n, rl⟩ := rx; exact go a (.dic ds) rfl rfl ⟨vs, h, rl⟩ (w a n)
  | bw ds => exact w.elim
  | fz ds => exact w.elim
  | bd ds => exact w.elim
  | st ds => exact w.elim
end
structure Nm where
  fnm : Nat → Str
  mnm : Nat → Str
  gnm : Nat → Str
  cnm : Nat → Str
  lay : Nat → List Str
  isF : Nat → Bool
  isM : Nat → Bool
  isG : Nat → Bool
  isC : Nat → Bool
  isD : Nat → Bool
  isL : Nat → Bool
  isK : Nat → Bool
  knm : Nat → Str
noncomputable def glB (sc : Scope) (x : Str) : Bool := match sc.names.lookup x with
  | some .globalImplicit => true
  | _ => false
noncomputable def visB (sc : Scope) (x : Str) : Bool := match sc.names.lookup x with
  | some .local => true
  | some .cell => true
  | some .free => true
  | _ => false
noncomputable def locB (sc : Scope) (x : Str) : Bool := match sc.names.lookup x with
  | some .local => true
  | _ => false
noncomputable def celB (sc : Scope) (x : Str) : Bool := match sc.names.lookup x with
  | some .cell => true
  | _ => false
noncomputable def lcB (c : Bool) (sc : Scope) (x : Str) : Bool := locB sc x || (c && celB sc x)
noncomputable def noDbg (x : Str) : Bool := !(x == ("__debug__" : Str)) && !(x == ("__classdict__" : Str))
noncomputable def vOk (N : List Str) (sc : Scope) (i : Nat) (x : Str) : Bool := decide (N[i]? = some x) && visB sc x && noDbg x
noncomputable def gOk (sc : Scope) (x : Str) : Bool := glB sc x && noDbg x
noncomputable def notStar : Expr → Bool
  | .Starred _ _ => false
  | _ => true
noncomputable def noSup : Expr → Bool
  | .Call (.Name _ _) [] [] _ => false
  | _ => true
noncomputable def noMark : Expr → Bool
  | .Set _ _ _ => false
  | _ => true
noncomputable def plainI : Expr → Bool
  | .Slice _ _ _ _ => false
  | _ => true
noncomputable def valF : Expr → Bool
  | .UnaryOp _ _ _ => false
  | .BoolOp _ _ _ => false
  | .IfExp _ _ _ _ => false
  | .Compare _ _ _ _ => false
  | _ => true
noncomputable def isTupE : Expr → Bool
  | .Tuple _ _ _ => true
  | _ => false
noncomputable def noSet : Expr → Bool
  | .Set _ _ _ => false
  | _ => true
noncomputable def binO : O2 → Operator → Bool
  | .add, .Add => true
  | .sub, .Sub => true
  | .mul, .Mult => true
  | .fdiv, .FloorDiv => true
  | .mod, .Mod => true
  | .pow, .Pow => true
  | _, _ => false
noncomputable def cmpO : O2 → CmpOp → Bool
  | .eq, .Eq => true
  | .ne, .NotEq => true
  | .eqh, .Eq => true
  | .neh, .NotEq => true
  | .lt, .Lt => true
  | .le, .LtE => true
  | .gt, .Gt => true
  | .ge, .GtE => true
  | .is, .Is => true
  | .isnt, .IsNot => true
  | .mem, .In => true
  | .nmem, .NotIn => true
  | .memh, .In => true
  | .nmemh, .NotIn => true
  | .memr, .In => true
  | .nmemr, .NotIn => true
  | _, _ => false
noncomputable def o1N : O1 → Str
  | .len => "len"
  | .int => "int"
  | .str => "str"
  | .list => "list"
  | .tuple => "tuple"
  | .sorted => "sorted"
  | .all => "all"
  | .any => "any"
  | .dict => "dict"
  | .dictP => "dict"
  | .sortedP => "sorted"
  | .sum => "sum"
  | .sortedN => "sorted"
  | .sortedDn => "sorted"
  | .listDn => "list"
  | .listK => "list"
  | .lenDn => "len"
  | .tupleX => "tuple"
  | .maxl => "max"
  | .minl => "min"
  | _ => ""
noncomputable def o1B : O1 → Bool
  | .neg => false
  | .isi _ => false
  | _ => true
noncomputable def tyN (t : Ty) : Str := Str.ofString t.nm
noncomputable def mN : M → Str
  | .append => "append"
  | .pop => "pop"
  | .popAt => "pop"
  | .insert => "insert"
  | .extend => "extend"
  | .clear => "clear"
  | .setI => ""
  | .remove => "remove"
noncomputable def bmN : BM → Str
  | .index => "index"
  | .count => "count"
  | .join => "join"
  | .split => "split"
  | .indexT => "index"
noncomputable def mA0 : M → Bool
  | .pop => true
  | .clear => true
  | _ => false
noncomputable def mA1 : M → Bool
  | .append => true
  | .popAt => true
  | .insert => true
  | .extend => true
  | .remove => true
  | _ => false
noncomputable def noStars (es : List Expr) : Bool := es.all notStar && decide (es.length < 20)
noncomputable def tgB (N : List Str) (c : Str → Bool) (sc : Scope) : Tg → Expr → Bool
  | .nm i, .Name x _ => decide (N[i]? = some x) && lcB (c x) sc x
  | .tp is, .Tuple es _ _ => go is es
  | _, _ => false
where go : List Nat → List Expr → Bool
  | [], [] => true
  | i :: is, .Name x _ :: es => decide (N[i]? = some x) && lcB (c x) sc x && go is es
  | _, _ => false
noncomputable def ownN (N : List Str) (is : List Nat) : List (Str × Nat) := is.map fun i => (N.getD i "", i)
noncomputable def atL (pos pos' : Pos) : Bool := pos.endLine == pos'.line
section
variable (nm : Nm) (N : List Str)
mutual
noncomputable def mE : R → Bool → Scope → Expr → Bool
  | .v i, tt, sc, e => match e with
    | .Name x _ => vOk N sc i x
    | _ => false
  | .i n, tt, sc, e => match e with
    | .Constant (.int m) _ _ => decide (n = m) && !tt
    | _ => false
  | .s x, tt, sc, e => match e with
    | .Constant (.str y) _ _ => decide (y = sv x) && !tt
    | _ => false
  | .b x, tt, sc, e => match e with
    | .Constant (.bool y) _ _ => decide (x = y)
    | _ => false
  | .n, tt, sc, e => match e with
    | .Constant .none _ _ => !tt
    | _ => false
  | .g k, tt, sc, e => match e with
    | .Name x _ => decide (x = nm.gnm k) && gOk sc x && nm.isG k
    | _ => false
  | .o1 o a, tt, sc, e => match e with
    | .UnaryOp .USub x _ => decide (o = .neg) && mE a false sc x && !tt
    | .Call (.Name f _) [x] [] _ => o1B o && decide (f = o1N o) && gOk sc f && notStar x && mE a false sc x
    | .Call (.Name f _) [x, .Name t _] [] _ => match o with
      | .isi ty => decide (f = ("isinstance" : Str)) && gOk sc f && decide (t = tyN ty) && gOk sc t && notStar x && mE a false sc x
      | _ => false
    | _ => false
  | .o2 o a b, tt, sc, e => match e with
    | .BinOp l op r _ => binO o op && mE a false sc l && mE b false sc r && !tt
    | .Compare l [op] [r] _ => cmpO o op && noMark r && mE a false sc l && mE b false sc r
    | .Subscript l r _ => decide (o = .idx) && plainI r && mE a false sc l && mE b false sc r
    | .Call (.Name f _) [x, y] [] _ => ((decide (o = .min) && decide (f = ("min" : Str))) || (decide (o = .max) && decide (f = ("max" : Str)))) && gOk sc f && notStar x && notStar y && mE a false sc x && mE b false sc y
    | _ => false
  | .tup as, tt, sc, e => match e with
    | .Tuple es _ _ => mA as sc es && !tt
    | _ => false
  | .lst as, tt, sc, e => match e with
    | .List es _ => mA as sc es && !tt
    | _ => false
  | .dct, tt, sc, e => match e with
    | .Dict [] [] _ => !tt
    | _ => false
  | .dctp ps, tt, sc, e => match e with
    | .Dict keys values _ => !tt && decide (keys.length ≤ 15) && decide (1 ≤ keys.length) && mPr ps sc keys values
    | _ => false
  | .get1 o k, tt, sc, e => match e with
    | .Call (.Attribute eo f apos) [ek] [] pos => decide (f = ("get" : Str)) && noSup eo && atL apos pos && notStar ek && mE o false sc eo && mE k false sc ek
    | _ => false
  | .dpop o k, tt, sc, e => match e with
    | .Call (.Attribute eo f apos) [ek] [] pos => decide (f = ("pop" : Str)) && noSup eo && atL apos pos && notStar ek && mE o false sc eo && mE k false sc ek
    | _ => false
  | .get2 o k d, tt, sc, e => match e with
    | .Call (.Attribute eo f apos) [ek, ed] [] pos => decide (f = ("get" : Str)) && noSup eo && atL apos pos && notStar ek && notStar ed && mE o false sc eo && mE k false sc ek && mE d false sc ed
    | _ => false
  | .get2N o k d, tt, sc, e => match e with
    | .Call (.Attribute eo f apos) [ek, ed] [] pos => decide (f = ("get" : Str)) && noSup eo && atL apos pos && notStar ek && notStar ed && mE o false sc eo && mE k false sc ek && mE d false sc ed
    | _ => false
  | .kmem neg k a, tt, sc, e => match e with
    | .Compare l [op] [.Name x _] _ => (match op with | .In => !neg | .NotIn => neg | _ => false) && decide (x = nm.knm k) && gOk sc x && nm.isK k && mE a false sc l
    | _ => false
  | .kidx k a, tt, sc, e => match e with
    | .Subscript (.Name x _) r _ => plainI r && decide (x = nm.knm k) && gOk sc x && nm.isK k && mE a false sc r
    | _ => false
  | .one a, tt, sc, e => match e with
    | .BoolOp op [x] _ => mE a tt sc x
    | .BoolOp _ _ _ => false
    | _ => false
  | .and a r, tt, sc, e => match e with
    | .BoolOp .And (x :: y :: rest) p => mE a tt sc x && mE r tt sc (.BoolOp .And (y :: rest) p)
    | _ => false
  | .or a r, tt, sc, e => match e with
    | .BoolOp .Or (x :: y :: rest) p => mE a tt sc x && mE r tt sc (.BoolOp .Or (y :: rest) p)
    | _ => false
  | .not a, tt, sc, e => match e with
    | .UnaryOp .Not x _ => mE a tt sc x
    | _ => false
  | .ife k a b, tt, sc, e => match e with
    | .IfExp ek ea eb _ => mE k true sc ek && mE a false sc ea && mE b false sc eb && !tt
    | _ => false
  | .chain o o' a b k, tt, sc, e => match e with
    | .Compare l [op, op'] [m, r] _ => cmpO o op && cmpO o' op' && noMark m && noMark r && mE a false sc l && mE b false sc m && mE k false sc r
    | _ => false
  | .slc a lo hi, tt, sc, e => match e with
    | .Subscript x (.Slice l h none _) _ => !tt && mE a false sc x && (match l with
        | none => (match lo with | .n => true | _ => false)
        | some l => (match lo with | .n => false | _ => true) && mE lo false sc l) && (match h with
        | none => (match hi with | .n => true | _ => false)
        | some h => (match hi with | .n => false | _ => true) && mE hi false sc h)
    | _ => false
  | .call f as, tt, sc, e => match e with
    | .Call (.Name x _) es [] _ => decide (x = nm.fnm f) && gOk sc x && nm.isF f && noStars es && mA as sc es && (match es with | [] => (match as with | .nil => true | _ => false) | _ => true)
    | _ => false
  | .meth f o as, tt, sc, e => match e with
    | .Call (.Attribute eo m apos) es [] pos => decide (m = nm.mnm f) && nm.isM f && noSup eo && atL apos pos && noStars es && mE o false sc eo && mA as sc es && (match es with | [] => (match as with | .nil => true | _ => false) | _ => true)
    | _ => false
  | .make ci as, tt, sc, e => match e with
    | .Call (.Name x _) (e :: es) [] _ => decide (x = nm.cnm ci) && gOk sc x && nm.isC ci && noStars (e :: es) && mA as sc (e :: es) && !tt
    | _ => false
  | .maken ci as, tt, sc, e => match e with
    | .Call (.Name x _) (e :: es) [] _ => decide (x = nm.cnm ci) && gOk sc x && nm.isD ci && noStars (e :: es) && mA as sc (e :: es) && !tt
    | _ => false
  | .fld o ci k, tt, sc, e => match e with
    | .Attribute eo f _ => decide ((nm.lay ci)[k]? = some f) && nm.isL ci && noSup eo && mE o false sc eo
    | _ => false
  | .hm m o as, tt, sc, e => match e with
    | .Call (.Attribute eo f apos) es [] pos => decide (f = mN m) && noSup eo && atL apos pos && noStars es && mE o false sc eo && !tt && (match es with
      | [] => mA0 m && (match as with | .nil => true | _ => false)
      | _ => mA1 m && mA as sc es)
    | _ => false
  | .comp tg elt it tst, tt, sc, e => match e with
    | .ListComp eelt [⟨etg, eit, ifs, 0⟩] scope _ => !tt && tgB N (fun x => scope.names.lookup x == some .cell) (relS scope sc) tg etg && mI it (isTupE etg) sc eit && blkC N sc scope (ownN N tg.is) && noSet eit && mE elt false (relS scope sc) eelt && (match ifs with
      | [] => (match tst with | .b true => true | _ => false)
      | [k] => mE tst true (relS scope sc) k
      | _ => false)
    | _ => false
  | .lockE a, tt, sc, e => !tt && mE a false sc e
  | .lockEN a, tt, sc, e => !tt && mE a false sc e
  | .lend i a, tt, sc, e => valF e && mE a false sc e
  | .lockV a, tt, sc, e => !tt && mE a false sc e
  | .dctn1 k v, tt, sc, e => match e with
    | .Dict [some ek] [ev] _ => !tt && mE k false sc ek && mE v false sc ev
    | _ => false
  | .dctn, tt, sc, e => match e with
    | .Dict [] [] _ => !tt
    | _ => false
  | .stp a k, tt, sc, e => match e with
    | .Subscript x (.Slice none none (some y) _) _ => !tt && mE a false sc x && mE k false sc y
    | _ => false
  | .sIt a, tt, sc, e => match e with
    | .Call (.Name f _) [.Call (.Attribute eo g apos) [] [] cpos] [] _ => !tt && decide (f = ("sorted" : Str)) && gOk sc f && decide (g = ("items" : Str)) && noSup eo && atL apos cpos && mE a false sc eo
    | _ => false
  | .rev a, tt, sc, e => match e with
    | .Subscript eo (.Slice none none (some (.UnaryOp .USub (.Constant (.int 1) _ _) _)) _) _ => !tt && mE a false sc eo
    | _ => false
  | .lrg a, tt, sc, e => match e with
    | .Call (.Name f _) [.Call (.Name g _) [x] [] _] [] _ => !tt && decide (f = ("list" : Str)) && gOk sc f && decide (g = ("range" : Str)) && gOk sc g && notStar x && mE a false sc x
    | _ => false
  | .setop k a, tt, sc, e => match e with
    | .Call (.Name f _) [.Call (.Name g _) [x] [] _] [] _ => !tt && decide (f = (if k then ("sorted" : Str) else ("len" : Str))) && gOk sc f && decide (g = ("set" : Str)) && gOk sc g && notStar x && mE a false sc x
    | _ => false
  | .slen a, tt, sc, e => match e with
    | .Call (.Name f _) [.Call (.Name g _) [x] [] _] [] _ => !tt && decide (f = ("len" : Str)) && gOk sc f && decide (g = ("set" : Str)) && gOk sc g && notStar x && mE a false sc x
    | _ => false
  | .upper a, tt, sc, e => match e with
    | .Call (.Attribute eo f apos) [] [] pos => !tt && decide (f = ("upper" : Str)) && noSup eo && atL apos pos && mE a false sc eo
    | _ => false
  | .bm1 m o a, tt, sc, e => match e with
    | .Call (.Attribute eo f apos) [x] [] pos => !tt && decide (f = bmN m) && noSup eo && atL apos pos && notStar x && mE o false sc eo && mE a false sc x
    | _ => false
  | _, _, _, _ => false
noncomputable def mA : R → Scope → List Expr → Bool
  | .nil, sc, es => match es with
    | [] => true
    | _ => false
  | .cons a r, sc, es => match es with
    | e :: es => notStar e && mE a false sc e && mA r sc es
    | _ => false
  | .consb a r, sc, es => match es with
    | e :: es => notStar e && mE a false sc e && mA r sc es
    | _ => false
  | _, _, _ => false
noncomputable def mPr : R → Scope → List (Option Expr) → List Expr → Bool
  | .nil, sc, ks, vs => match ks, vs with
    | [], [] => true
    | _, _ => false
  | .pr k v r, sc, ks, vs => match ks, vs with
    | some ek :: ks, ev :: vs => mE k false sc ek && mE v false sc ev && mPr r sc ks vs
    | _, _ => false
  | _, _, _, _ => false
noncomputable def mI : R → Bool → Scope → Expr → Bool
  | .itv i, tp, sc, e => match e with
    | .Name x _ => vOk N sc i x
    | _ => false
  | .ite a, tp, sc, e => mE a false sc e
  | .ichs a, tp, sc, e => mE a false sc e
  | .itk a, tp, sc, e => mE a false sc e
  | .itkn a, tp, sc, e => mE a false sc e
  | .itms a, tp, sc, e => match e with
    | .Call (.Attribute eo f apos) [] [] pos => tp && decide (f = ("items" : Str)) && noSup eo && atL apos pos && mE a false sc eo
    | _ => false
  | .rng a, tp, sc, e => match e with
    | .Call (.Name f _) [x] [] _ => decide (f = ("range" : Str)) && gOk sc f && notStar x && mE a false sc x
    | _ => false
  | .rng2 a b, tp, sc, e => match e with
    | .Call (.Name f _) [x, y] [] _ => decide (f = ("range" : Str)) && gOk sc f && notStar x && notStar y && mE a false sc x && mE b false sc y
    | _ => false
  | .rng3 a b s, tp, sc, e => match e with
    | .Call (.Name f _) [x, y, z] [] _ => decide (f = ("range" : Str)) && gOk sc f && notStar x && notStar y && notStar z && mE a false sc x && mE b false sc y && mE s false sc z
    | _ => false
  | .enuk a, tp, sc, e => match e with
    | .Call (.Name f _) [x] [] _ => tp && decide (f = ("enumerate" : Str)) && gOk sc f && notStar x && mE a false sc x
    | _ => false
  | .enu a, tp, sc, e => match e with
    | .Call (.Name f _) [x] [] _ => tp && decide (f = ("enumerate" : Str)) && gOk sc f && notStar x && mS a sc x
    | _ => false
  | .zip a b, tp, sc, e => match e with
    | .Call (.Name f _) [x, y] [] _ => tp && decide (f = ("zip" : Str)) && gOk sc f && notStar x && notStar y && mS a sc x && mS b sc y
    | _ => false
  | _, _, _, _ => false
noncomputable def mS : R → Scope → Expr → Bool
  | .itv i, sc, e => match e with
    | .Name x _ => vOk N sc i x
    | _ => false
  | .ite a, sc, e => mE a false sc e
  | _, _, _ => false
end
end
noncomputable def bltNames : List Str := ["len", "int", "str", "list", "tuple", "sorted", "all", "any", "min", "max", "range", "enumerate", "zip", "isinstance", "bool", "dict", "sum", "set"]
structure Okx (T : Tbl) (c : Nat → List Vx → Hs → VK2 → Prop) (cx : Cls2) (nm : Nm) (N : List Str) (X : Cx) : Prop where
  calm : X.calm = true
  hN : X.N = N
  nd : N.Nodup
  un : X.A.units + 65 < cLine
  blt : ∀ x ∈ bltNames, X.mg x = none
  lay : cx.lay = nm.lay
  wd : cx.w = X.w
  fn : ∀ f, nm.isF f = true → ∃ k fa fd ps np, FnOk X.prog X.w X.K X.mg X.base CX0 k fa fd ps (spOf X.K cx c f np) ∧ NumOk c f np ∧ Room k X.A ∧ X.mg (nm.fnm f) = some (.ref fa) ∧ PySem.W.keepIn X.K (.ref fa) = true ∧ Binds X.K fd ps []
  mt : ∀ f, nm.isM f = true → ∃ k fa fd ps np, Cls X.K (cx.adr (T.fcls f)) ∧ Meth X.K (cx.adr (T.fcls f)) (nm.mnm f) fa ∧ nm.mnm f ∉ cx.lay (T.fcls f) ∧ FnOk X.prog X.w X.K X.mg X.base CX0 k fa fd ps (spOf X.K cx c f np) ∧ NumOk c f np ∧ Room k X.A ∧ Binds X.K fd ps []
  mkc : ∀ ci, nm.isC ci = true → ∃ k fa fd ps np, Mk X.K (cx.adr ci) fa ∧ FnOk X.prog X.w X.K X.mg X.base CX0 k fa fd ps (spOf X.K cx c (T.cini ci) np) ∧ NumOk c (T.cini ci) np ∧ Room (k + 1) X.A ∧ X.mg (nm.cnm ci) = some (.ref (cx.adr ci)) ∧ Binds X.K fd ps []
  mkd : ∀ ci, nm.isD ci = true → ∃ k fa fd ps np ds, Mk X.K (cx.adr ci) fa ∧ FnOk X.prog X.w X.K X.mg X.base CX0 k fa fd ps (spOf X.K cx c (T.cini ci) np) ∧ NumOk c (T.cini ci) np ∧ Room (k + 1) X.A ∧ X.mg (nm.cnm ci) = some (.ref (cx.adr ci)) ∧ Vals [V.non] ds ∧ Binds X.K fd ps ds
  cl : ∀ ci, nm.isL ci = true → ClsOk X.K cx ci
  gl : ∀ k, nm.isG k = true → ∃ v u, X.mg (nm.gnm k) = some u ∧ RelV v u ∧ own (T.glob k) = false ∧ ∀ S H, Rel X.K cx S H → RepX X.K H S (T.glob k) v
  kd : ∀ k, nm.isK k = true → KdOk X.K X.w X.mg (nm.knm k) (T.kd k)
section
variable {T : Tbl} {c : Nat → List Vx → Hs → VK2 → Prop} {cx : Cls2} {nm : Nm} {N : List Str} {X : Cx}
theorem Okx.blk (h : Okx T c cx nm N X) (s : Shared) (H : Hp) (scope : Scope) (env : Env) (fp : List Addr) : Okx T c cx nm N (X.blk s H scope env fp) := ⟨h.calm, h.hN, h.nd, h.un, h.blt, h.lay, h.wd, h.fn, h.mt, h.mkc, h.mkd, h.cl, h.gl, h.kd⟩
theorem Okx.nox (h : Okx T c cx nm N X) : Okx T c cx nm N X.nox := ⟨h.calm, h.hN, h.nd, h.un, h.blt, h.lay, h.wd, h.fn, h.mt, h.mkc, h.mkd, h.cl, h.gl, h.kd⟩
theorem Okx.b (h : Okx T c cx nm N X) {x : Str} (m : decide (x ∈ bltNames) = true) : X.mg x = none := h.blt x (of_decide_eq_true m)
theorem gl_of {sc : Scope} (hs : X.env.scope = sc) {x : Str} (h : glB sc x = true) : Gl X x := by
  unfold glB at h
  unfold Gl Env.kindOf
  rw [hs]
  split at h
  · assumption
  · cases h
theorem vis_of {sc : Scope} (hs : X.env.scope = sc) {x : Str} (h : visB sc x = true) : Vis X.env.scope x := by
  unfold visB at h
  unfold Vis
  rw [hs]
  split at h
  · exact .inl (by assumption)
  · exact .inr (.inl (by assumption))
  · exact .inr (.inr (by assumption))
  · cases h
theorem loc_of {sc : Scope} {x : Str} (h : locB sc x = true) : sc.names.lookup x = some .local := by
  unfold locB at h
  split at h
  · assumption
  · cases h
theorem star_of {e : Expr} (h : notStar e = true) (es : List Expr) (env : Env) : starEach (e :: es) env = (false, eval e env) :: starEach es env := by
  cases e <;> first | rfl | cases h
theorem stars_of {es : List Expr} (h : noStars es = true) (env : Env) (pos : Pos) : (backTo pos (starEach es env)).any (·.1) = false ∧ (backTo pos (starEach es env)).all (fun x => !x.1) = true := by
  unfold noStars at h
  rw [Bool.and_eq_true] at h
  replace h := h.1
  induction es with
  | nil => exact ⟨rfl, rfl⟩
  | cons e es ih =>
    simp only [List.all_cons, Bool.and_eq_true] at h
    obtain ⟨i1, i2⟩ := ih h.2
    rw [star_of h.1]
    unfold backTo at i1 i2 ⊢
    simp only [List.map_cons, List.any_cons, List.all_cons]
    exact ⟨by simpa using i1, by simpa using i2⟩
theorem stars_tl {e : Expr} {es : List Expr} (h : noStars (e :: es) = true) : notStar e = true ∧ noStars es = true := by
  unfold noStars at h ⊢
  simp only [List.all_cons, Bool.and_eq_true, decide_eq_true_eq, List.length_cons] at h ⊢
  exact ⟨h.1.1, h.1.2, by omega⟩
theorem mark_of {op : CmpOp} {e : Expr} (h : noMark e = true) : behindInMarks op e = false := by
  cases e <;> first | rfl | cases h
theorem base_of {o : Expr} (h : noSup o = true) (m : Str) : attributeBase o m X.env (eval o X.env) = eval o X.env := by
  unfold attributeBase
  split
  · cases h
  · rfl
theorem plain_of {e : Expr} (h : plainI e = true) : PlainIx e := by
  intro o i
  cases e <;> first | rfl | cases h
theorem set_of {e : Expr} (h : noSet e = true) : ∀ x, foldedSetIterable e X.env x = pure x := by
  intro x
  cases e <;> first | rfl | cases h
theorem val_of {e : Expr} (h : valF e = true) : ∀ whole, isTrue e X.env whole = (do let v ← whole; standAt e.pos; holding [v] (truthy v)) := by
  intro w
  cases e <;> first | rfl | cases h
theorem meth_of {o : Expr} {m : Str} {apos pos : Pos} {es : List Expr} (h : noSup o = true) (hl : atL apos pos = true) (hs : noStars es = true) :
    eval (.Call (.Attribute o m apos) es [] pos) X.env = (do
      let ov ← eval o X.env
      standAt apos.atName
      let (f, first) ← holding [ov] (getMethod ov m (do return (← importBound o X.env).getD true))
      callWith pos f first (backTo pos (starEach es X.env)) (backToKw pos (keywordEach [] X.env))) := by
  have hf : methodCallForm (es.length + ([] : List Keyword).length) (backTo pos (starEach es X.env)) (backToKw pos (keywordEach [] X.env)) = true := by
    unfold methodCallForm
    rw [(stars_of hs X.env pos).2]
    unfold noStars at hs
    simp only [Bool.and_eq_true, decide_eq_true_eq] at hs
    show (true && true && decide (es.length + 0 + 0 < 30)) = true
    simp; omega
  show (do
    let ov ← attributeBase o m X.env (eval o X.env)
    standAt apos.atName
    methodCall o m apos pos X.env ov (es.length + ([] : List Keyword).length) (backTo pos (starEach es X.env)) (backToKw pos (keywordEach [] X.env))) = _
  rw [base_of h]
  unfold methodCall calleeOf methodCallPos
  rw [hf]
  have hl' : (apos.endLine == pos.line) = true := hl
  simp only [hl', Bool.not_true, Bool.false_or, if_true, pure_bind]
variable (hc : CalMono c)
include hc
noncomputable def OutE (T : Tbl) (c : Nat → List Vx → Hs → VK2 → Prop) (cx : Cls2) (X : Cx) (r : R) (tt : Bool) (e : Expr) : Prop :=
  (tt = false → PE X e (liftE X.K cx (wpE T c r))) ∧ (tt = true → PT X e (liftT X.K cx (wpE T c r)) ∧ ((∃ op vs p, e = .BoolOp op vs p) → PW X e (liftT X.K cx (wpE T c r))))
theorem out_val {r : R} {tt : Bool} {e : Expr} (h : PE X e (liftE X.K cx (wpE T c r))) (hv : valF e = true) : OutE T c cx X r tt e :=
  ⟨fun _ => h, fun _ => ⟨tst_val hc h (val_of hv), fun ⟨op, vs, p, e⟩ => by subst e; cases hv⟩⟩
omit hc in
theorem out_ff {r : R} {tt : Bool} {e : Expr} (h : PE X e (liftE X.K cx (wpE T c r))) (ht : (!tt) = true) : OutE T c cx X r tt e := ⟨fun _ => h, fun z => by subst z; cases ht⟩
omit hc in
theorem out_tst {r : R} {tt : Bool} {e : Expr} (h : PE X e (liftE X.K cx (wpE T c r))) (h2 : PT X e (liftT X.K cx (wpE T c r))) (hb : ∀ op vs p, e ≠ .BoolOp op vs p) : OutE T c cx X r tt e := ⟨fun _ => h, fun z => ⟨h2, fun ⟨op, vs, p, e⟩ => (hb _ _ _ e).elim⟩⟩
noncomputable def ClmE (T : Tbl) (c : Nat → List Vx → Hs → VK2 → Prop) (cx : Cls2) (nm : Nm) (N : List Str) (r : R) : Prop := ∀ X, Okx T c cx nm N X → ∀ tt sc e, X.env.scope = sc → mE nm N r tt sc e = true → OutE T c cx X r tt e
noncomputable def ClmA (T : Tbl) (c : Nat → List Vx → Hs → VK2 → Prop) (cx : Cls2) (nm : Nm) (N : List Str) (r : R) : Prop := ∀ X, Okx T c cx nm N X → ∀ sc es, X.env.scope = sc → mA nm N r sc es = true → PA X es (liftA X.K cx (wpE T c r))
noncomputable def ClmI (T : Tbl) (c : Nat → List Vx → Hs → VK2 → Prop) (cx : Cls2) (nm : Nm) (N : List Str) (r : R) : Prop := ∀ X, Okx T c cx nm N X → ∀ tp sc e, X.env.scope = sc → mI nm N r tp sc e = true → ∀ tg, (tp = true → isTupE tg = true) → PI X tg e (liftI X.K cx r (wpI T c r))
noncomputable def ClmS (T : Tbl) (c : Nat → List Vx → Hs → VK2 → Prop) (cx : Cls2) (nm : Nm) (N : List Str) (r : R) : Prop := ∀ X, Okx T c cx nm N X → ∀ sc e, X.env.scope = sc → mS nm N r sc e = true → PE X e (liftSrc X.K cx r (wpI T c r))
omit hc in
theorem dbg_of {x : Str} (h : noDbg x = true) : (x == ("__debug__" : Str)) = false ∧ (x == ("__classdict__" : Str)) = false := by
  unfold noDbg at h
  simp only [Bool.and_eq_true, Bool.not_eq_true'] at h
  exact h
omit hc in
theorem gOk_of {sc : Scope} (hs : X.env.scope = sc) {x : Str} (h : gOk sc x = true) : Gl X x ∧ (x == ("__debug__" : Str)) = false := by
  unfold gOk at h
  simp only [Bool.and_eq_true] at h
  exact ⟨gl_of hs h.1, (dbg_of h.2).1⟩
omit hc in
theorem vOk_of (h : Okx T c cx nm N X) {sc : Scope} (hs : X.env.scope = sc) {i : Nat} {x : Str} (m : vOk N sc i x = true) : X.N[i]? = some x ∧ Vis X.env.scope x ∧ (x == ("__debug__" : Str)) = false ∧ (x == ("__classdict__" : Str)) = false := by
  unfold vOk at m
  simp only [Bool.and_eq_true, decide_eq_true_eq] at m
  exact ⟨by rw [h.hN]; exact m.1.1, vis_of hs m.1.2, (dbg_of m.2).1, (dbg_of m.2).2⟩
theorem clm_v (i : Nat) : ClmE T c cx nm N (.v i) := fun X h tt sc e hs m => by
  unfold mE at m
  split at m
  · obtain ⟨h1, h2, h3, h4⟩ := vOk_of h hs m
    exact out_val hc (snd_v hc h1 h2 h3 h4) rfl
  · cases m
theorem clm_i (n : Int) : ClmE T c cx nm N (.i n) := fun X h tt sc e hs m => by
  unfold mE at m
  split at m
  · simp only [Bool.and_eq_true, decide_eq_true_eq] at m
    obtain ⟨rfl, m⟩ := m
    exact out_ff (snd_i hc) m
  · cases m
theorem clm_s (n : List Nat) : ClmE T c cx nm N (.s n) := fun X h tt sc e hs m => by
  unfold mE at m
  split at m
  · simp only [Bool.and_eq_true, decide_eq_true_eq] at m
    exact out_ff (snd_s hc m.1) m.2
  · cases m
theorem clm_b (n : Bool) : ClmE T c cx nm N (.b n) := fun X h tt sc e hs m => by
  unfold mE at m
  split at m
  · simp only [decide_eq_true_eq] at m
    subst m
    exact out_val hc (snd_b hc) rfl
  · cases m
theorem clm_n : ClmE T c cx nm N .n := fun X h tt sc e hs m => by
  unfold mE at m
  split at m
  · exact out_ff (snd_n hc) m
  · cases m
theorem clm_g (k : Nat) : ClmE T c cx nm N (.g k) := fun X h tt sc e hs m => by
  unfold mE at m
  split at m
  · simp only [Bool.and_eq_true, decide_eq_true_eq] at m
    obtain ⟨⟨rfl, m⟩, mg⟩ := m
    obtain ⟨g1, g2⟩ := gOk_of hs m
    obtain ⟨v, u, hm, rv, ho, rx⟩ := h.gl k mg
    exact out_val hc (peImp (pe_glob g1 hm rv g2) fun σ H Q ⟨S, σ2, hr, rs, y, e', q⟩ => by cases e'; exact fin q hr (rx S H hr) ho) rfl
  · cases m
omit hc in
theorem o1_call {o : O1} (hb : o1B o = true) (h : Okx T c cx nm N X) {x : Expr} {p pos : Pos} (hg : Gl X (o1N o)) (hst : notStar x = true) : ∀ t : TA, PA X [x] t → PE X (.Call (.Name (o1N o) p) [x] [] pos) (tCB (c1of X.K cx o) t) := fun t ht => by
  have e1 := star_of hst [] X.env
  cases o with
  | neg => cases hb
  | isi t => cases hb
  | len => exact pe_callB call1_len hg (h.b (by decide +kernel)) boot_len ht (he := e1) (hpl := rfl)
  | dict => exact pe_callTy call1_dict hg (h.b (by decide +kernel)) PyProof.Rows.boot_dict ht (he := e1) (hpl := rfl)
  | dictP => exact pe_callTy (call1_dictP h.calm) hg (h.b (by decide +kernel)) PyProof.Rows.boot_dict ht (he := e1) (hpl := rfl)
  | sorted => exact pe_callB (call1_sorted h.calm) hg (h.b (by decide +kernel)) boot_sorted ht (he := e1) (hpl := rfl)
  | sortedP => exact pe_callB call1_sortedP hg (h.b (by decide +kernel)) boot_sorted ht (he := e1) (hpl := rfl)
  | sortedN => exact pe_callB call1_sortedN hg (h.b (by decide +kernel)) boot_sorted ht (he := e1) (hpl := rfl)
  | sortedDn => exact pe_callB (call1_sortedDn h.calm h.wd) hg (h.b (by decide +kernel)) boot_sorted ht (he := e1) (hpl := rfl)
  | listK => exact pe_callTy (call1_listK h.calm) hg (h.b (by decide +kernel)) PyProof.Rows.boot_list ht (he := e1) (hpl := rfl)
  | listDn => exact pe_callTy (call1_listDn h.calm h.wd) hg (h.b (by decide +kernel)) PyProof.Rows.boot_list ht (he := e1) (hpl := rfl)
  | lenDn => exact pe_callB (call1_lenDn h.wd) hg (h.b (by decide +kernel)) boot_len ht (he := e1) (hpl := rfl)
  | sum => exact pe_callB (call1_sum h.calm) hg (h.b (by decide +kernel)) PyProof.Rows.boot_sum ht (he := e1) (hpl := rfl)
  | maxl => exact pe_callB (call1_max h.calm) hg (h.b (by decide +kernel)) PyProof.Rows.boot_max ht (he := e1) (hpl := rfl)
  | minl => exact pe_callB (call1_min h.calm) hg (h.b (by decide +kernel)) PyProof.Rows.boot_min ht (he := e1) (hpl := rfl)
  | all => exact pe_callB (call1_all h.calm) hg (h.b (by decide +kernel)) boot_all ht (he := e1) (hpl := rfl)
  | any => exact pe_callB (call1_any h.calm) hg (h.b (by decide +kernel)) boot_any ht (he := e1) (hpl := rfl)
  | int => exact pe_callTy call1_int hg (h.b (by decide +kernel)) PyProof.Rows.boot_int ht (he := e1) (hpl := rfl)
  | str => exact pe_callTy (call1_str (by have := h.un; omega)) hg (h.b (by decide +kernel)) PyProof.Rows.boot_str ht (he := e1) (hpl := rfl)
  | list => exact pe_callTy call1_list hg (h.b (by decide +kernel)) PyProof.Rows.boot_list ht (he := e1) (hpl := rfl)
  | tuple => exact pe_callTy call1_tuple hg (h.b (by decide +kernel)) PyProof.Rows.boot_tuple ht (he := e1) (hpl := rfl)
  | tupleX => exact pe_callTy call1_tupleX hg (h.b (by decide +kernel)) PyProof.Rows.boot_tuple ht (he := e1) (hpl := rfl)
theorem bool_one (t : Ty) : (tyN t) ∈ bltNames := by cases t <;> decide +kernel
omit hc in
theorem ty_boot (t : Ty) : bootBuiltins (tyN t) = some (.type t.nm) := by cases t <;> decide +kernel
omit hc in
theorem ty_name (t : Ty) : tyN t ≠ "__name__" := by cases t <;> decide +kernel
theorem clm_o1 (o : O1) {a : R} (ia : ClmE T c cx nm N a) : ClmE T c cx nm N (.o1 o a) := fun X h tt sc e hs m => by
  unfold mE at m
  split at m
  · simp only [Bool.and_eq_true, decide_eq_true_eq] at m
    obtain ⟨⟨rfl, m⟩, ht⟩ := m
    exact out_ff (snd_neg hc ((ia X h false sc _ hs m).1 rfl)) ht
  · simp only [Bool.and_eq_true, decide_eq_true_eq] at m
    obtain ⟨⟨⟨⟨hb, rfl⟩, hg⟩, hst⟩, m⟩ := m
    exact out_val hc (snd_call1 hc (o1_call hb h (gOk_of hs hg).1 hst) (star_of hst [] X.env) ((ia X h false sc _ hs m).1 rfl)) rfl
  · split at m
    · rename_i ty
      simp only [Bool.and_eq_true, decide_eq_true_eq] at m
      obtain ⟨⟨⟨⟨⟨rfl, hg⟩, rfl⟩, hg2⟩, hst⟩, m⟩ := m
      refine out_val hc (snd_isi hc (t := ty) (fun t ht => pe_callB (isi_ok ty) (gOk_of hs hg).1 (h.b (by decide +kernel)) PyProof.Rows.boot_isinstance ht (he := star_of hst _ X.env) (hpl := rfl)) (star_of hst _ X.env) rfl ((ia X h false sc _ hs m).1 rfl) ?_) rfl
      exact pe_bltn (gOk_of hs hg2).1 (h.blt _ (bool_one hc ty)) (ty_boot ty) rfl (ty_name ty) (gOk_of hs hg2).2
    · cases m
  · cases m
end
section
variable {T : Tbl} {c : Nat → List Vx → Hs → VK2 → Prop} {cx : Cls2} {nm : Nm} {N : List Str} {X : Cx}
variable (hc : CalMono c)
include hc
omit hc in
theorem bin_of {o : O2} {op : Operator} (h : binO o op = true) : OpR X (binaryOp op) (r2of X.K cx (op2D o)) := by
  unfold binO at h
  split at h
  · exact op2_add
  · exact op2_sub
  · exact op2_mul
  · exact op2_fdiv
  · exact op2_mod
  · exact op2_pow
  · cases h
omit hc in
theorem cmp_of (hu : X.A.units + 65 < cLine) (hw : cx.w = X.w) {o : O2} {op : CmpOp} (h : cmpO o op = true) : OpR X (compareOp op) (r2of X.K cx (op2D o)) := by
  have h1 : X.A.units + 64 < cLine := by omega
  unfold cmpO at h
  split at h
  · exact op2_eq h1
  · exact op2_ne h1
  · exact op2_eqh h1
  · exact op2_neh h1
  · exact op2_lt
  · exact op2_le
  · exact op2_gt
  · exact op2_ge
  · exact op2_is
  · exact op2_isnt
  · exact op2_mem hu hw
  · exact op2_nmem hu hw
  · exact op2_memh hu
  · exact op2_nmemh hu
  · exact op2_memr hu
  · exact op2_nmemr hu
  · cases h
theorem clm_o2 (o : O2) {a b : R} (ia : ClmE T c cx nm N a) (ib : ClmE T c cx nm N b) : ClmE T c cx nm N (.o2 o a b) := fun X h tt sc e hs m => by
  unfold mE at m
  split at m
  · simp only [Bool.and_eq_true, decide_eq_true_eq] at m
    obtain ⟨⟨⟨ho, m1⟩, m2⟩, ht⟩ := m
    exact out_ff (snd_bin hc (bin_of ho) ((ia X h false sc _ hs m1).1 rfl) ((ib X h false sc _ hs m2).1 rfl)) ht
  · simp only [Bool.and_eq_true, decide_eq_true_eq] at m
    obtain ⟨⟨⟨ho, hk⟩, m1⟩, m2⟩ := m
    have p1 := (ia X h false sc _ hs m1).1 rfl
    have p2 := (ib X h false sc _ hs m2).1 rfl
    exact out_tst (snd_cmp hc (cmp_of h.un h.wd ho) (mark_of hk) p1 p2) (tst_cmp hc (cmp_of h.un h.wd ho) (mark_of hk) p1 p2) (fun _ _ _ e => by cases e)
  · simp only [Bool.and_eq_true, decide_eq_true_eq] at m
    obtain ⟨⟨⟨rfl, hp⟩, m1⟩, m2⟩ := m
    exact out_val hc (snd_ix hc (ix_ok h.un h.wd) (plain_of hp) ((ia X h false sc _ hs m1).1 rfl) ((ib X h false sc _ hs m2).1 rfl)) rfl
  · simp only [Bool.and_eq_true, Bool.or_eq_true, decide_eq_true_eq] at m
    obtain ⟨⟨⟨⟨⟨ho, hg⟩, s1⟩, s2⟩, m1⟩, m2⟩ := m
    have p1 := (ia X h false sc _ hs m1).1 rfl
    have p2 := (ib X h false sc _ hs m2).1 rfl
    rcases ho with ⟨rfl, rfl⟩ | ⟨rfl, rfl⟩
    · exact out_val hc (snd_call2 hc (fun t ht => pe_callB (call2_min h.calm) (gOk_of hs hg).1 (h.b (by decide +kernel)) PyProof.Rows.boot_min ht (he := star_of s1 _ X.env) (hpl := by rw [star_of s2]; rfl)) (star_of s1 _ X.env) (star_of s2 [] X.env) p1 p2) rfl
    · exact out_val hc (snd_call2 hc (fun t ht => pe_callB (call2_max h.calm) (gOk_of hs hg).1 (h.b (by decide +kernel)) PyProof.Rows.boot_max ht (he := star_of s1 _ X.env) (hpl := by rw [star_of s2]; rfl)) (star_of s1 _ X.env) (star_of s2 [] X.env) p1 p2) rfl
  · cases m
theorem clm_tup {as : R} (ia : ClmA T c cx nm N as) : ClmE T c cx nm N (.tup as) := fun X h tt sc e hs m => by
  unfold mE at m
  split at m
  · simp only [Bool.and_eq_true] at m
    exact out_ff (snd_tup hc (ia X h sc _ hs m.1)) m.2
  · cases m
theorem clm_lst {as : R} (ia : ClmA T c cx nm N as) : ClmE T c cx nm N (.lst as) := fun X h tt sc e hs m => by
  unfold mE at m
  split at m
  · simp only [Bool.and_eq_true] at m
    exact out_ff (snd_lst hc (ia X h sc _ hs m.1)) m.2
  · cases m
theorem clm_dct : ClmE T c cx nm N .dct := fun X h tt sc e hs m => by
  unfold mE at m
  split at m
  · exact out_ff (snd_dct hc) m
  · cases m
theorem clm_one {a : R} (ia : ClmE T c cx nm N a) : ClmE T c cx nm N (.one a) := fun X h tt sc e hs m => by
  unfold mE at m
  split at m
  · have o := ia X h tt sc _ hs m
    refine ⟨fun z => ?_, fun z => ?_⟩
    · exact snd_one hc (o.1 z)
    · exact ⟨(tst_one hc (o.2 z).1).pt, fun _ => tst_one hc (o.2 z).1⟩
  · cases m
  · cases m
theorem clm_and {a r : R} (ia : ClmE T c cx nm N a) (ir : ClmE T c cx nm N r) : ClmE T c cx nm N (.and a r) := fun X h tt sc e hs m => by
  unfold mE at m
  split at m
  · simp only [Bool.and_eq_true] at m
    have o := ia X h tt sc _ hs m.1
    have o2 := ir X h tt sc _ hs m.2
    refine ⟨fun z => snd_and hc (o.1 z) (o2.1 z), fun z => ?_⟩
    have q := tst_and hc (o.2 z).1 ((o2.2 z).2 ⟨_, _, _, rfl⟩)
    exact ⟨q.pt, fun _ => q⟩
  · cases m
theorem clm_or {a r : R} (ia : ClmE T c cx nm N a) (ir : ClmE T c cx nm N r) : ClmE T c cx nm N (.or a r) := fun X h tt sc e hs m => by
  unfold mE at m
  split at m
  · simp only [Bool.and_eq_true] at m
    have o := ia X h tt sc _ hs m.1
    have o2 := ir X h tt sc _ hs m.2
    refine ⟨fun z => snd_or hc (o.1 z) (o2.1 z), fun z => ?_⟩
    have q := tst_or hc (o.2 z).1 ((o2.2 z).2 ⟨_, _, _, rfl⟩)
    exact ⟨q.pt, fun _ => q⟩
  · cases m
theorem clm_not {a : R} (ia : ClmE T c cx nm N a) : ClmE T c cx nm N (.not a) := fun X h tt sc e hs m => by
  unfold mE at m
  split at m
  · have o := ia X h tt sc _ hs m
    exact ⟨fun z => snd_not hc (o.1 z), fun z => ⟨tst_not hc (o.2 z).1, fun ⟨_, _, _, e⟩ => by cases e⟩⟩
  · cases m
theorem clm_ife {k a b : R} (ik : ClmE T c cx nm N k) (ia : ClmE T c cx nm N a) (ib : ClmE T c cx nm N b) : ClmE T c cx nm N (.ife k a b) := fun X h tt sc e hs m => by
  unfold mE at m
  split at m
  · simp only [Bool.and_eq_true] at m
    obtain ⟨⟨⟨m1, m2⟩, m3⟩, ht⟩ := m
    exact out_ff (snd_ife hc ((ik X h true sc _ hs m1).2 rfl).1 ((ia X h false sc _ hs m2).1 rfl) ((ib X h false sc _ hs m3).1 rfl)) ht
  · cases m
theorem clm_chain (o o' : O2) {a b k : R} (ia : ClmE T c cx nm N a) (ib : ClmE T c cx nm N b) (ik : ClmE T c cx nm N k) : ClmE T c cx nm N (.chain o o' a b k) := fun X h tt sc e hs m => by
  unfold mE at m
  split at m
  · simp only [Bool.and_eq_true] at m
    obtain ⟨⟨⟨⟨⟨⟨h1, h2⟩, n1⟩, n2⟩, m1⟩, m2⟩, m3⟩ := m
    have q := fun pos => snd_chain hc (pos := pos) (cmp_of h.un h.wd h1) (cmp_of h.un h.wd h2) ((ia X h false sc _ hs m1).1 rfl) ((ib X h false sc _ hs m2).1 rfl) ((ik X h false sc _ hs m3).1 rfl) (mark_of n1) (mark_of n2)
    exact out_tst (q _).1 (q _).2 (fun _ _ _ e => by cases e)
  · cases m
theorem part_of {lo : R} {l : Option Expr} {sc : Scope} (m : (match l with
        | none => (match lo with | .n => true | _ => false)
        | some l => (match lo with | .n => false | _ => true) && mE nm N lo false sc l) = true) : ClmE T c cx nm N lo → Okx T c cx nm N X → X.env.scope = sc → PartOk X T c cx lo l := by
  intro il h hs
  split at m
  · split at m
    · exact part_n hc
    · cases m
  · simp only [Bool.and_eq_true] at m
    refine part_e hc (fun e => ?_) ((il X h false sc _ hs m.2).1 rfl)
    subst e
    cases m.1
theorem clm_slc {a lo hi : R} (ia : ClmE T c cx nm N a) (il : ClmE T c cx nm N lo) (ih : ClmE T c cx nm N hi) : ClmE T c cx nm N (.slc a lo hi) := fun X h tt sc e hs m => by
  unfold mE at m
  split at m
  · rw [Bool.and_eq_true, Bool.and_eq_true, Bool.and_eq_true] at m
    obtain ⟨⟨⟨ht, m1⟩, m2⟩, m3⟩ := m
    exact out_ff (snd_slc hc ((ia X h false sc _ hs m1).1 rfl) (part_of hc m2 il h hs) (part_of hc m3 ih h hs)) ht
  · cases m
theorem as_nil {as : R} (m : (match as with | .nil => true | _ => false) = true) : as = .nil := by
  split at m
  · rfl
  · cases m
end
section
variable {T : Tbl} {c : Nat → List Vx → Hs → VK2 → Prop} {cx : Cls2} {nm : Nm} {N : List Str} {X : Cx}
variable (hc : CalMono c)
include hc
theorem clm_call (f : Nat) {as : R} (ia : ClmA T c cx nm N as) : ClmE T c cx nm N (.call f as) := fun X h tt sc e hs m => by
  unfold mE at m
  split at m
  · rename_i es _
    simp only [Bool.and_eq_true, decide_eq_true_eq] at m
    obtain ⟨⟨⟨⟨⟨rfl, hg⟩, hf⟩, hst⟩, m⟩, mn⟩ := m
    obtain ⟨k, fa, fd, ps, np, F, hn, hr, hm, hk, hb⟩ := h.fn f hf
    have pa := ia X h sc _ hs m
    cases es with
    | nil => exact out_val hc (snd_call0 hc F hn hr (gOk_of hs hg).1 hm hk hb pa (gOk_of hs hg).2 (as_nil hc mn)) rfl
    | cons e es => exact out_val hc (snd_call hc F hn hr (gOk_of hs hg).1 hm hk hb pa (gOk_of hs hg).2 (star_of (stars_tl hst).1 _ _) (stars_of (stars_tl hst).2 _ _).1) rfl
  · cases m
theorem clm_meth (f : Nat) {o as : R} (io : ClmE T c cx nm N o) (ia : ClmA T c cx nm N as) : ClmE T c cx nm N (.meth f o as) := fun X h tt sc e hs m => by
  unfold mE at m
  split at m
  · rename_i es _
    simp only [Bool.and_eq_true, decide_eq_true_eq] at m
    obtain ⟨⟨⟨⟨⟨⟨⟨rfl, hf⟩, hsu⟩, hl⟩, hst⟩, m1⟩, m⟩, mn⟩ := m
    obtain ⟨k, fa, fd, ps, np, hcl, hmt, hno, F, hn, hr, hb⟩ := h.mt f hf
    have pa := ia X h sc _ hs m
    have po := (io X h false sc _ hs m1).1 rfl
    cases es with
    | nil =>
      have e := as_nil hc mn
      subst e
      exact out_val hc (snd_meth0 hc rfl rfl hcl hmt hno F hn hr hb po (meth_of hsu hl hst)) rfl
    | cons e es => exact out_val hc (snd_meth hc rfl rfl hcl hmt hno F hn hr hb po pa (star_of (stars_tl hst).1 _ _) (stars_of (stars_tl hst).2 _ _).1 (meth_of hsu hl hst)) rfl
  · cases m
theorem clm_make (ci : Nat) {as : R} (ia : ClmA T c cx nm N as) : ClmE T c cx nm N (.make ci as) := fun X h tt sc e hs m => by
  unfold mE at m
  split at m
  · simp only [Bool.and_eq_true, decide_eq_true_eq] at m
    obtain ⟨⟨⟨⟨⟨rfl, hg⟩, hf⟩, hst⟩, m⟩, ht⟩ := m
    obtain ⟨k, fa, fd, ps, np, M, F, hn, hr, hm, hb⟩ := h.mkc ci hf
    exact out_ff (snd_make hc rfl rfl M F hn hr (gOk_of hs hg).1 hm hb (ia X h sc _ hs m) (gOk_of hs hg).2 (star_of (stars_tl hst).1 _ _) (stars_of (stars_tl hst).2 _ _).1) ht
  · cases m
theorem clm_maken (ci : Nat) {as : R} (ia : ClmA T c cx nm N as) : ClmE T c cx nm N (.maken ci as) := fun X h tt sc e hs m => by
  unfold mE at m
  split at m
  · simp only [Bool.and_eq_true, decide_eq_true_eq] at m
    obtain ⟨⟨⟨⟨⟨rfl, hg⟩, hf⟩, hst⟩, m⟩, ht⟩ := m
    obtain ⟨k, fa, fd, ps, np, ds, M, F, hn, hr, hm, hd, hb⟩ := h.mkd ci hf
    exact out_ff (snd_maken hc rfl rfl M F hn hr (gOk_of hs hg).1 hm hb hd (ia X h sc _ hs m) (gOk_of hs hg).2 (star_of (stars_tl hst).1 _ _) (stars_of (stars_tl hst).2 _ _).1) ht
  · cases m
theorem clm_fld {o : R} (ci k : Nat) (io : ClmE T c cx nm N o) : ClmE T c cx nm N (.fld o ci k) := fun X h tt sc e hs m => by
  unfold mE at m
  split at m
  · simp only [Bool.and_eq_true, decide_eq_true_eq] at m
    obtain ⟨⟨⟨hf, hi⟩, hsu⟩, m⟩ := m
    exact out_val hc (snd_fld hc (h.cl ci hi) (by rw [h.lay]; exact hf) ((io X h false sc _ hs m).1 rfl) (base_of hsu _)) rfl
  · cases m
end
section
variable {T : Tbl} {c : Nat → List Vx → Hs → VK2 → Prop} {cx : Cls2} {nm : Nm} {N : List Str} {X : Cx}
variable (hc : CalMono c)
include hc
omit hc in
theorem few_of {es : List Expr} (hst : noStars es = true) (pos : Pos) : ((backTo pos (starEach es X.env)).all (fun x => !x.1) && (backToKw pos (keywordEach [] X.env)).all (fun x => x.1.isSome)
      && decide (es.length + ([] : List Keyword).length + (if ([] : List Keyword).isEmpty then 0 else 1) < 30)) = true := by
  rw [(stars_of hst X.env pos).2]
  unfold noStars at hst
  simp only [Bool.and_eq_true, decide_eq_true_eq] at hst
  show (true && true && decide (es.length + 0 + 0 < 30)) = true
  simp; omega
theorem clm_hm (mm : M) {o as : R} (io : ClmE T c cx nm N o) (ia : ClmA T c cx nm N as) : ClmE T c cx nm N (.hm mm o as) := fun X h tt sc e hs m => by
  unfold mE at m
  split at m
  · rename_i es _
    simp only [Bool.and_eq_true, decide_eq_true_eq] at m
    obtain ⟨⟨⟨⟨⟨⟨rfl, hsu⟩, hl⟩, hst⟩, m1⟩, ht⟩, m⟩ := m
    have po := (io X h false sc _ hs m1).1 rfl
    refine out_ff ?_ ht
    cases es with
    | nil =>
      simp only [Bool.and_eq_true] at m
      have e := as_nil hc m.2
      subst e
      cases mm with
      | pop => exact snd_hm0 hc (fun to p => pe_bm0 PySem.F.plainAttrs_list PySem.F.slot_list_pop PySem.F.type_list_pop mut_pop p (base_of hsu _) hl) po
      | clear => exact snd_hm0 hc (fun to p => pe_bm0 PySem.F.plainAttrs_list PySem.F.slot_list_clear PySem.F.type_list_clear mut_clear p (base_of hsu _) hl) po
      | _ => cases m.1
    | cons e es =>
      simp only [Bool.and_eq_true] at m
      have pa := ia X h sc _ hs m.2
      have s1 := star_of (stars_tl hst).1 es X.env
      cases mm with
      | append => exact snd_hm hc (fun to t p q => pe_bm PySem.F.plainAttrs_list PySem.F.slot_list_append PySem.F.type_list_append mut_append p q (base_of hsu _) (few_of hst _) hl s1 (stars_of (stars_tl hst).2 _ _).1) po pa
      | popAt => exact snd_hm hc (fun to t p q => pe_bm PySem.F.plainAttrs_list PySem.F.slot_list_pop PySem.F.type_list_pop mut_popAt p q (base_of hsu _) (few_of hst _) hl s1 (stars_of (stars_tl hst).2 _ _).1) po pa
      | remove => exact snd_hm hc (fun to t p q => pe_bm PySem.F.plainAttrs_list PySem.F.slot_list_remove PySem.F.type_list_remove mut_remove p q (base_of hsu _) (few_of hst _) hl s1 (stars_of (stars_tl hst).2 _ _).1) po pa
      | insert => exact snd_hm hc (fun to t p q => pe_bm PySem.F.plainAttrs_list PySem.F.slot_list_insert PySem.F.type_list_insert mut_insert p q (base_of hsu _) (few_of hst _) hl s1 (stars_of (stars_tl hst).2 _ _).1) po pa
      | extend => exact snd_hm hc (fun to t p q => pe_bm PySem.F.plainAttrs_list PySem.F.slot_list_extend PySem.F.type_list_extend mut_extend p q (base_of hsu _) (few_of hst _) hl s1 (stars_of (stars_tl hst).2 _ _).1) po pa
      | _ => cases m.1
  · cases m
omit hc in
theorem lc_of {c : Bool} {sc : Scope} {x : Str} (hs : X.env.scope = sc) (hf : c = true → X.fn x = true) (m : lcB c sc x = true) : Loc X.env.scope x ∧ (X.fn x = true ∨ X.env.scope.names.lookup x = some .local) := by
  unfold lcB at m
  rw [Bool.or_eq_true, Bool.and_eq_true] at m
  rcases m with m | ⟨m1, m2⟩
  · have hl := loc_of m
    exact ⟨.inl (by rw [hs]; exact hl), .inr (by rw [hs]; exact hl)⟩
  · refine ⟨.inr ?_, .inl (hf m1)⟩
    rw [hs]
    unfold celB at m2
    split at m2
    · assumption
    · cases m2
omit hc in
theorem tgN_of {c : Str → Bool} (hf : ∀ x, c x = true → X.fn x = true) (hcalm : X.calm = true) (hN : X.N.Nodup) {sc : Scope} (hs : X.env.scope = sc) : ∀ (is : List Nat) (es : List Expr), tgB.go X.N c sc is es = true → PGs X es (gNames is) ∧ (assignEach es X.env).length = is.length ∧ (assignEach es X.env).findIdx? (·.1) = none
  | [], [], _ => ⟨pgs_nil, rfl, rfl⟩
  | [], e :: es, m => by cases m
  | i :: is, [], m => by cases m
  | i :: is, e :: es, m => by
    unfold tgB.go at m
    split at m
    · rename_i h1 h2; cases h1
    · rename_i i' is' x p es' h1 h2
      cases h1; cases h2
      simp only [Bool.and_eq_true, decide_eq_true_eq] at m
      obtain ⟨h1, h2, h3⟩ := tgN_of hf hcalm hN hs is _ m.2
      have hl := lc_of hs (hf x) m.1.2
      have g : PG X (.Name x p) (gName i) := pg_name hN m.1.1 hl.1 hl.2
      refine ⟨pgs_cons g h1 rfl, ?_, ?_⟩
      · show (((false, assign (.Name x p) X.env) :: assignEach _ X.env) : List (Bool × (Value → Sem Unit))).length = _
        simp [h2]
      · show (((false, assign (.Name x p) X.env) :: assignEach _ X.env) : List (Bool × (Value → Sem Unit))).findIdx? (·.1) = none
        rw [List.findIdx?_cons]
        simp [h3]
    · cases m
omit hc in
theorem tg_of {c : Str → Bool} (hf : ∀ x, c x = true → X.fn x = true) (hcalm : X.calm = true) (hN : X.N.Nodup) {sc : Scope} (hs : X.env.scope = sc) {tg : Tg} {e : Expr} (m : tgB X.N c sc tg e = true) : PG X e (tgG X.K tg) := by
  unfold tgB at m
  split at m
  · simp only [Bool.and_eq_true, decide_eq_true_eq] at m
    have hl := lc_of hs (hf _) m.2
    exact pg_name hN m.1 hl.1 hl.2
  · obtain ⟨h1, h2, h3⟩ := tgN_of hf hcalm hN hs _ _ m
    exact pg_tup hcalm h1 h2 h3
  · cases m
omit hc in
theorem ownN_snd (N : List Str) (is : List Nat) : (ownN N is).map (·.2) = is := by
  unfold ownN
  induction is with
  | nil => rfl
  | cons i is ih => simp only [List.map_cons]; rw [ih]
theorem clm_comp (tg : Tg) {elt it tst : R} (ie : ClmE T c cx nm N elt) (ii : ClmI T c cx nm N it) (it' : ClmE T c cx nm N tst) : ClmE T c cx nm N (.comp tg elt it tst) := fun X h tt sc e hs m => by
  unfold mE at m
  split at m
  · rename_i eelt etg eit ifs scope _
    rw [Bool.and_eq_true, Bool.and_eq_true, Bool.and_eq_true, Bool.and_eq_true, Bool.and_eq_true, Bool.and_eq_true] at m
    obtain ⟨⟨⟨⟨⟨⟨ht, mt⟩, mi⟩, mb⟩, mn⟩, me⟩, mf⟩ := m
    have hN := h.hN
    subst hN
    refine out_ff (snd_comp hc h.calm h.nd (ii X h (isTupE etg) sc _ hs mi etg fun z => z) (blkOk_by (by rw [hs]; exact mb)) (ownN_snd _ _) (fun s H C cl fp => ?_) (fun s H C cl fp => ?_) (fun s H C cl fp => ?_) (set_of mn)) ht
    · exact tg_of (X := X.blk s H scope (compEnvC scope cl C X.env) fp) (fun x z => z) h.calm h.nd (show relS scope X.env.scope = relS scope sc by rw [hs]) mt
    · split at mf
      · split at mf
        · exact pts_tt hc
        · cases mf
      · exact pts_one ((it' _ (h.blk s H scope (compEnvC scope cl C X.env) fp) true _ _ (show relS scope X.env.scope = relS scope sc by rw [hs]) mf).2 rfl).1
      · cases mf
    · exact (ie _ (h.blk s H scope (compEnvC scope cl C X.env) fp) false _ _ (show relS scope X.env.scope = relS scope sc by rw [hs]) me).1 rfl
  · cases m
theorem clm_nil : ClmA T c cx nm N .nil := fun X h sc es hs m => by
  unfold mA at m
  split at m
  · exact snd_nil hc
  · cases m
theorem clm_cons {a r : R} (ia : ClmE T c cx nm N a) (ir : ClmA T c cx nm N r) : ClmA T c cx nm N (.cons a r) := fun X h sc es hs m => by
  unfold mA at m
  split at m
  · simp only [Bool.and_eq_true] at m
    exact snd_cons hc ((ia X h false sc _ hs m.1.2).1 rfl) (ir X h sc _ hs m.2) (star_of m.1.1 _ _)
  · cases m
theorem clm_consb {a r : R} (ia : ClmE T c cx nm N a) (ir : ClmA T c cx nm N r) : ClmA T c cx nm N (.consb a r) := fun X h sc es hs m => by
  unfold mA at m
  split at m
  · simp only [Bool.and_eq_true] at m
    exact snd_consb hc ((ia X h false sc _ hs m.1.2).1 rfl) (ir X h sc _ hs m.2) (star_of m.1.1 _ _)
  · cases m
theorem clm_itvS (i : Nat) : ClmS T c cx nm N (.itv i) := fun X h sc e hs m => by
  unfold mS at m
  split at m
  · obtain ⟨h1, h2, h3, h4⟩ := vOk_of h hs m
    exact src_v hc h1 h2 h3 h4
  · cases m
theorem clm_iteS {a : R} (ia : ClmE T c cx nm N a) : ClmS T c cx nm N (.ite a) := fun X h sc e hs m => by
  unfold mS at m
  exact src_e hc ((ia X h false sc e hs m).1 rfl)
theorem clm_itvI (i : Nat) : ClmI T c cx nm N (.itv i) := fun X h tp sc e hs m tg ht => by
  unfold mI at m
  split at m
  · obtain ⟨h1, h2, h3, h4⟩ := vOk_of h hs m
    exact walk_src hc (src_v hc h1 h2 h3 h4)
  · cases m
theorem clm_iteI {a : R} (ia : ClmE T c cx nm N a) : ClmI T c cx nm N (.ite a) := fun X h tp sc e hs m tg ht => by
  unfold mI at m
  exact walk_src hc (src_e hc ((ia X h false sc e hs m).1 rfl))
theorem clm_ichs {a : R} (ia : ClmE T c cx nm N a) : ClmI T c cx nm N (.ichs a) := fun X h tp sc e hs m tg ht => by
  unfold mI at m
  exact walk_ichs hc ((ia X h false sc e hs m).1 rfl)
theorem clm_rng {a : R} (ia : ClmE T c cx nm N a) : ClmI T c cx nm N (.rng a) := fun X h tp sc e hs m tg ht => by
  unfold mI at m
  split at m
  · simp only [Bool.and_eq_true, decide_eq_true_eq] at m
    obtain ⟨⟨⟨rfl, hg⟩, hst⟩, m⟩ := m
    exact walk_rng hc (gOk_of hs hg).1 (h.b (by decide +kernel)) (star_of hst [] _) ((ia X h false sc _ hs m).1 rfl)
  · cases m
theorem clm_rng2 {a b : R} (ia : ClmE T c cx nm N a) (ib : ClmE T c cx nm N b) : ClmI T c cx nm N (.rng2 a b) := fun X h tp sc e hs m tg ht => by
  unfold mI at m
  split at m
  · simp only [Bool.and_eq_true, decide_eq_true_eq] at m
    obtain ⟨⟨⟨⟨⟨rfl, hg⟩, s1⟩, s2⟩, m1⟩, m2⟩ := m
    exact walk_rng2 hc (gOk_of hs hg).1 (h.b (by decide +kernel)) (by rw [star_of s1, star_of s2]; rfl) (star_of s2 [] _) ((ia X h false sc _ hs m1).1 rfl) ((ib X h false sc _ hs m2).1 rfl)
  · cases m
theorem clm_rng3 {a b s : R} (ia : ClmE T c cx nm N a) (ib : ClmE T c cx nm N b) (is : ClmE T c cx nm N s) : ClmI T c cx nm N (.rng3 a b s) := fun X h tp sc e hs m tg ht => by
  unfold mI at m
  split at m
  · simp only [Bool.and_eq_true, decide_eq_true_eq] at m
    obtain ⟨⟨⟨⟨⟨⟨⟨rfl, hg⟩, s1⟩, s2⟩, s3⟩, m1⟩, m2⟩, m3⟩ := m
    exact walk_rng3 hc (gOk_of hs hg).1 (h.b (by decide +kernel)) (star_of s1 _ _) (star_of s2 _ _) (star_of s3 [] _) (by rw [star_of s2, star_of s3]; rfl) ((ia X h false sc _ hs m1).1 rfl) ((ib X h false sc _ hs m2).1 rfl) ((is X h false sc _ hs m3).1 rfl)
  · cases m
theorem clm_enu {a : R} (ia : ClmS T c cx nm N a) : ClmI T c cx nm N (.enu a) := fun X h tp sc e hs m tg ht => by
  unfold mI at m
  split at m
  · simp only [Bool.and_eq_true, decide_eq_true_eq] at m
    obtain ⟨⟨⟨⟨hp, rfl⟩, hg⟩, hst⟩, m⟩ := m
    have ht := ht hp
    unfold isTupE at ht
    split at ht
    · exact walk_enu hc (gOk_of hs hg).1 (h.b (by decide +kernel)) (star_of hst [] _) (ia X h sc _ hs m)
    · cases ht
  · cases m
theorem clm_enuk {a : R} (ia : ClmE T c cx nm N a) : ClmI T c cx nm N (.enuk a) := fun X h tp sc e hs m tg ht => by
  unfold mI at m
  split at m
  · simp only [Bool.and_eq_true, decide_eq_true_eq] at m
    obtain ⟨⟨⟨⟨hp, rfl⟩, hg⟩, hst⟩, m⟩ := m
    have ht := ht hp
    unfold isTupE at ht
    split at ht
    · exact walk_enuk hc (gOk_of hs hg).1 (h.b (by decide +kernel)) (star_of hst [] _) ((ia X h false sc _ hs m).1 rfl)
    · cases ht
  · cases m
theorem clm_zip {a b : R} (ia : ClmS T c cx nm N a) (ib : ClmS T c cx nm N b) : ClmI T c cx nm N (.zip a b) := fun X h tp sc e hs m tg ht => by
  unfold mI at m
  split at m
  · simp only [Bool.and_eq_true, decide_eq_true_eq] at m
    obtain ⟨⟨⟨⟨⟨⟨hp, rfl⟩, hg⟩, s1⟩, s2⟩, m1⟩, m2⟩ := m
    have ht := ht hp
    unfold isTupE at ht
    split at ht
    · exact walk_zip hc (gOk_of hs hg).1 (h.b (by decide +kernel)) (star_of s1 _ _) (by rw [star_of s2]; rfl) (star_of s2 [] _) (ia X h sc _ hs m1) (ib X h sc _ hs m2)
    · cases ht
  · cases m
noncomputable def ClmP (T : Tbl) (c : Nat → List Vx → Hs → VK2 → Prop) (cx : Cls2) (nm : Nm) (N : List Str) (r : R) : Prop := ∀ X, Okx T c cx nm N X → ∀ sc ks vs, X.env.scope = sc → mPr nm N r sc ks vs = true → (∀ pos, PPs X pos ks vs (prTrs X.K cx T c r)) ∧ isPr r = true ∧ ks.all (·.isSome) = true ∧ ks.length = vs.length
theorem clm_nilP : ClmP T c cx nm N .nil := fun X h sc ks vs hs m => by
  unfold mPr at m
  split at m
  · exact ⟨fun pos => pps_nil, rfl, rfl, rfl⟩
  · cases m
theorem clm_pr {k v r : R} (ik : ClmE T c cx nm N k) (iv : ClmE T c cx nm N v) (ir : ClmP T c cx nm N r) : ClmP T c cx nm N (.pr k v r) := fun X h sc ks vs hs m => by
  unfold mPr at m
  split at m
  · simp only [Bool.and_eq_true] at m
    obtain ⟨h1, h2, h3, h4⟩ := ir X h sc _ _ hs m.2
    exact ⟨fun pos => pps_cons ((ik X h false sc _ hs m.1.1).1 rfl) ((iv X h false sc _ hs m.1.2).1 rfl) (h1 pos), h2, by simpa using h3, by simp [h4]⟩
  · cases m
theorem clm_dctp {ps : R} (ip : ClmP T c cx nm N ps) : ClmE T c cx nm N (.dctp ps) := fun X h tt sc e hs m => by
  unfold mE at m
  split at m
  · simp only [Bool.and_eq_true, decide_eq_true_eq] at m
    obtain ⟨⟨⟨ht, l1⟩, l2⟩, m⟩ := m
    obtain ⟨h1, h2, h3, h4⟩ := ip X h sc _ _ hs m
    exact out_ff (snd_dctp hc h2 (h1 _) h3 h4 (fun e => by rw [e] at l2; simp at l2) l1) ht
  · cases m
theorem clm_get1 {o k : R} (io : ClmE T c cx nm N o) (ik : ClmE T c cx nm N k) : ClmE T c cx nm N (.get1 o k) := fun X h tt sc e hs m => by
  unfold mE at m
  split at m
  · simp only [Bool.and_eq_true, decide_eq_true_eq] at m
    obtain ⟨⟨⟨⟨⟨rfl, hsu⟩, hl⟩, s1⟩, m1⟩, m2⟩ := m
    refine out_val hc (snd_get1 hc (by have := h.un; omega) ((io X h false sc _ hs m1).1 rfl) ((ik X h false sc _ hs m2).1 rfl) ⟨base_of hsu _, few_of (by unfold noStars; simp [s1]) _, hl, ?_⟩) rfl
    rw [star_of s1 [] X.env]
    rfl
  · cases m
theorem clm_dpop {o k : R} (io : ClmE T c cx nm N o) (ik : ClmE T c cx nm N k) : ClmE T c cx nm N (.dpop o k) := fun X h tt sc e hs m => by
  unfold mE at m
  split at m
  · simp only [Bool.and_eq_true, decide_eq_true_eq] at m
    obtain ⟨⟨⟨⟨⟨rfl, hsu⟩, hl⟩, s1⟩, m1⟩, m2⟩ := m
    refine out_val hc (snd_dpop hc ((io X h false sc _ hs m1).1 rfl) ((ik X h false sc _ hs m2).1 rfl) ⟨base_of hsu _, few_of (by unfold noStars; simp [s1]) _, hl, ?_⟩) rfl
    rw [star_of s1 [] X.env]
    rfl
  · cases m
theorem clm_get2 {o k d : R} (io : ClmE T c cx nm N o) (ik : ClmE T c cx nm N k) (id : ClmE T c cx nm N d) : ClmE T c cx nm N (.get2 o k d) := fun X h tt sc e hs m => by
  unfold mE at m
  split at m
  · simp only [Bool.and_eq_true, decide_eq_true_eq] at m
    obtain ⟨⟨⟨⟨⟨⟨⟨rfl, hsu⟩, hl⟩, s1⟩, s2⟩, m1⟩, m2⟩, m3⟩ := m
    refine out_val hc (snd_get2 hc (by have := h.un; omega) ((io X h false sc _ hs m1).1 rfl) ((ik X h false sc _ hs m2).1 rfl) ((id X h false sc _ hs m3).1 rfl) ⟨base_of hsu _, few_of (by unfold noStars; simp [s1, s2]) _, hl, ?_⟩) rfl
    rw [star_of s1 _ X.env, star_of s2 [] X.env]
    rfl
  · cases m
theorem clm_kmem (neg : Bool) (k : Nat) {a : R} (ia : ClmE T c cx nm N a) : ClmE T c cx nm N (.kmem neg k a) := fun X h tt sc e hs m => by
  unfold mE at m
  split at m
  · simp only [Bool.and_eq_true, decide_eq_true_eq] at m
    obtain ⟨⟨⟨⟨ho, rfl⟩, hg⟩, hk⟩, m1⟩ := m
    obtain ⟨g1, g2⟩ := gOk_of hs hg
    have p := (ia X h false sc _ hs m1).1 rfl
    exact out_tst (snd_kmem hc ho (h.kd k hk) g1 g2 p) (tst_kmem hc ho (h.kd k hk) g1 g2 p) (fun _ _ _ e => by cases e)
  · cases m
theorem clm_kidx (k : Nat) {a : R} (ia : ClmE T c cx nm N a) : ClmE T c cx nm N (.kidx k a) := fun X h tt sc e hs m => by
  unfold mE at m
  split at m
  · simp only [Bool.and_eq_true, decide_eq_true_eq] at m
    obtain ⟨⟨⟨⟨hp, rfl⟩, hg⟩, hk⟩, m1⟩ := m
    obtain ⟨g1, g2⟩ := gOk_of hs hg
    exact out_val hc (snd_kidx hc (h.kd k hk) g1 g2 (plain_of hp) ((ia X h false sc _ hs m1).1 rfl)) rfl
  · cases m
theorem clm_get2N {o k d : R} (io : ClmE T c cx nm N o) (ik : ClmE T c cx nm N k) (id : ClmE T c cx nm N d) : ClmE T c cx nm N (.get2N o k d) := fun X h tt sc e hs m => by
  unfold mE at m
  split at m
  · simp only [Bool.and_eq_true, decide_eq_true_eq] at m
    obtain ⟨⟨⟨⟨⟨⟨⟨rfl, hsu⟩, hl⟩, s1⟩, s2⟩, m1⟩, m2⟩, m3⟩ := m
    refine out_val hc (snd_get2N hc (by have := h.un; omega) h.wd ((io X h false sc _ hs m1).1 rfl) ((ik X h false sc _ hs m2).1 rfl) ((id X h false sc _ hs m3).1 rfl) ⟨base_of hsu _, few_of (by unfold noStars; simp [s1, s2]) _, hl, ?_⟩) rfl
    rw [star_of s1 _ X.env, star_of s2 [] X.env]
    rfl
  · cases m
theorem clm_itk {a : R} (ia : ClmE T c cx nm N a) : ClmI T c cx nm N (.itk a) := fun X h tp sc e hs m tg ht => by
  unfold mI at m
  exact walk_itk hc ((ia X h false sc e hs m).1 rfl)
theorem clm_itms {a : R} (ia : ClmE T c cx nm N a) : ClmI T c cx nm N (.itms a) := fun X h tp sc e hs m tg ht => by
  unfold mI at m
  split at m
  · simp only [Bool.and_eq_true, decide_eq_true_eq] at m
    obtain ⟨⟨⟨⟨hp, rfl⟩, hsu⟩, hl⟩, m⟩ := m
    have ht := ht hp
    unfold isTupE at ht
    split at ht
    · exact walk_itms hc ((ia X h false sc _ hs m).1 rfl) (base_of hsu _) hl
    · cases ht
  · cases m
theorem clm_sIt {a : R} (ia : ClmE T c cx nm N a) : ClmE T c cx nm N (.sIt a) := fun X h tt sc e hs m => by
  unfold mE at m
  split at m
  · simp only [Bool.and_eq_true, decide_eq_true_eq] at m
    obtain ⟨⟨⟨⟨⟨⟨ht, rfl⟩, hg⟩, rfl⟩, hsu⟩, hl⟩, m⟩ := m
    exact out_ff (snd_sIt hc h.calm (gOk_of hs hg).1 (h.b (by decide +kernel)) ((ia X h false sc _ hs m).1 rfl) (base_of hsu _) hl) ht
  · cases m
theorem clm_rev {a : R} (ia : ClmE T c cx nm N a) : ClmE T c cx nm N (.rev a) := fun X h tt sc e hs m => by
  unfold mE at m
  split at m
  · simp only [Bool.and_eq_true] at m
    exact out_ff (snd_rev hc ((ia X h false sc _ hs m.2).1 rfl)) m.1
  · cases m
theorem clm_lrg {a : R} (ia : ClmE T c cx nm N a) : ClmE T c cx nm N (.lrg a) := fun X h tt sc e hs m => by
  unfold mE at m
  split at m
  · simp only [Bool.and_eq_true, decide_eq_true_eq] at m
    obtain ⟨⟨⟨⟨⟨⟨ht, rfl⟩, hg⟩, rfl⟩, hg2⟩, hst⟩, m⟩ := m
    exact out_ff (snd_lrg hc h.calm (gOk_of hs hg).1 (h.b (by decide +kernel)) (gOk_of hs hg2).1 (h.b (by decide +kernel)) ((ia X h false sc _ hs m).1 rfl) (star_of hst [] _)) ht
  · cases m
theorem clm_setop (k : Bool) {a : R} (ia : ClmE T c cx nm N a) : ClmE T c cx nm N (.setop k a) := fun X h tt sc e hs m => by
  unfold mE at m
  split at m
  · simp only [Bool.and_eq_true, decide_eq_true_eq] at m
    obtain ⟨⟨⟨⟨⟨⟨ht, rfl⟩, hg⟩, rfl⟩, hg2⟩, hst⟩, m⟩ := m
    refine out_ff (snd_setop hc (fun ta pa => ?_) ((ia X h false sc _ hs m).1 rfl)) ht
    cases k with
    | true => exact pe_sortedSet h.calm (gOk_of hs hg).1 (h.b (by decide +kernel)) (gOk_of hs hg2).1 (h.b (by decide +kernel)) pa (star_of hst [] _)
    | false => exact pe_lenSetT h.calm (gOk_of hs hg).1 (h.b (by decide +kernel)) (gOk_of hs hg2).1 (h.b (by decide +kernel)) pa (star_of hst [] _)
  · cases m
theorem clm_slen {a : R} (ia : ClmE T c cx nm N a) : ClmE T c cx nm N (.slen a) := fun X h tt sc e hs m => by
  unfold mE at m
  split at m
  · simp only [Bool.and_eq_true, decide_eq_true_eq] at m
    obtain ⟨⟨⟨⟨⟨⟨ht, rfl⟩, hg⟩, rfl⟩, hg2⟩, hst⟩, m⟩ := m
    exact out_ff (snd_slen hc (fun ta pa => pe_lenSetL h.calm (gOk_of hs hg).1 (h.b (by decide +kernel)) (gOk_of hs hg2).1 (h.b (by decide +kernel)) pa (star_of hst [] _)) ((ia X h false sc _ hs m).1 rfl)) ht
  · cases m
theorem clm_upper {a : R} (ia : ClmE T c cx nm N a) : ClmE T c cx nm N (.upper a) := fun X h tt sc e hs m => by
  unfold mE at m
  split at m
  · simp only [Bool.and_eq_true, decide_eq_true_eq] at m
    obtain ⟨⟨⟨⟨ht, rfl⟩, hsu⟩, hl⟩, m⟩ := m
    exact out_ff (snd_upper hc (base_of hsu _) hl ((ia X h false sc _ hs m).1 rfl)) ht
  · cases m
theorem clm_bm1 (mm : BM) {o a : R} (io : ClmE T c cx nm N o) (ia : ClmE T c cx nm N a) : ClmE T c cx nm N (.bm1 mm o a) := fun X h tt sc e hs m => by
  unfold mE at m
  split at m
  · simp only [Bool.and_eq_true, decide_eq_true_eq] at m
    obtain ⟨⟨⟨⟨⟨⟨ht, rfl⟩, hsu⟩, hl⟩, s1⟩, m1⟩, m2⟩ := m
    have po := (io X h false sc _ hs m1).1 rfl
    have pa := (ia X h false sc _ hs m2).1 rfl
    have hst : ∀ x : Expr, notStar x = true → noStars [x] = true := fun x z => by unfold noStars; simp [z]
    refine out_ff ?_ ht
    cases mm with
    | index => exact snd_index hc (fun to t p q => pe_bm PySem.F.plainAttrs_list PySem.F.slot_list_index PySem.F.type_list_index mt_index p q (base_of hsu _) (few_of (hst _ s1) _) hl (star_of s1 [] _) (stars_of (stars_tl (hst _ s1)).2 _ _).1) (star_of s1 [] _) po pa
    | count => exact snd_count hc (fun to t p q => pe_bm PySem.F.plainAttrs_list PySem.F.slot_list_count PySem.F.type_list_count mt_lcount p q (base_of hsu _) (few_of (hst _ s1) _) hl (star_of s1 [] _) (stars_of (stars_tl (hst _ s1)).2 _ _).1) (star_of s1 [] _) po pa
    | indexT => exact snd_indexT hc (fun to t p q => pe_xtIdx p q (base_of hsu _) (few_of (hst _ s1) _) hl (star_of s1 [] _)) (star_of s1 [] _) po pa
    | join => exact snd_join hc (star_of s1 [] _) (base_of hsu _) hl po pa
    | split => exact snd_split hc (star_of s1 [] _) (base_of hsu _) hl po pa
  · cases m
theorem clm_lockE {a : R} (ia : ClmE T c cx nm N a) : ClmE T c cx nm N (.lockE a) := fun X h tt sc e hs m => by
  unfold mE at m
  simp only [Bool.and_eq_true] at m
  exact out_ff (snd_lockE hc ((ia X h false sc e hs m.2).1 rfl)) m.1
theorem clm_lockEN {a : R} (ia : ClmE T c cx nm N a) : ClmE T c cx nm N (.lockEN a) := fun X h tt sc e hs m => by
  unfold mE at m
  simp only [Bool.and_eq_true] at m
  exact out_ff (snd_lockEN hc ((ia X h false sc e hs m.2).1 rfl)) m.1
theorem clm_lend (i : Nat) {a : R} (ia : ClmE T c cx nm N a) : ClmE T c cx nm N (.lend i a) := fun X h tt sc e hs m => by
  unfold mE at m
  simp only [Bool.and_eq_true] at m
  exact out_val hc (snd_lend hc ((ia X h false sc e hs m.2).1 rfl)) m.1
theorem clm_dctn : ClmE T c cx nm N .dctn := fun X h tt sc e hs m => by
  unfold mE at m
  split at m
  · exact out_ff (snd_dctn hc h.wd) m
  · cases m
theorem clm_lockV {a : R} (ia : ClmE T c cx nm N a) : ClmE T c cx nm N (.lockV a) := fun X h tt sc e hs m => by
  unfold mE at m
  simp only [Bool.and_eq_true] at m
  exact out_ff (snd_lockV hc ((ia X h false sc e hs m.2).1 rfl)) m.1
theorem clm_dctn1 {k v : R} (ik : ClmE T c cx nm N k) (iv : ClmE T c cx nm N v) : ClmE T c cx nm N (.dctn1 k v) := fun X h tt sc e hs m => by
  unfold mE at m
  split at m
  · simp only [Bool.and_eq_true] at m
    obtain ⟨⟨ht, m1⟩, m2⟩ := m
    exact out_ff (snd_dctn1 hc h.wd (by have := h.un; omega) ((ik X h false sc _ hs m1).1 rfl) ((iv X h false sc _ hs m2).1 rfl)) ht
  · cases m
theorem clm_stp {a k : R} (ia : ClmE T c cx nm N a) (ik : ClmE T c cx nm N k) : ClmE T c cx nm N (.stp a k) := fun X h tt sc e hs m => by
  unfold mE at m
  split at m
  · simp only [Bool.and_eq_true] at m
    obtain ⟨⟨ht, m1⟩, m2⟩ := m
    exact out_ff (snd_stp hc ((ia X h false sc _ hs m1).1 rfl) ((ik X h false sc _ hs m2).1 rfl)) ht
  · cases m
theorem clm_itkn {a : R} (ia : ClmE T c cx nm N a) : ClmI T c cx nm N (.itkn a) := fun X h tp sc e hs m tg ht => by
  unfold mI at m
  exact walk_itkn hc ((ia X h false sc e hs m).1 rfl)
theorem clm (r : R) : ClmE T c cx nm N r ∧ ClmA T c cx nm N r ∧ ClmI T c cx nm N r ∧ ClmS T c cx nm N r ∧ ClmP T c cx nm N r := by
  have noA : ∀ {r : R}, (∀ sc es, mA nm N r sc es = false) → ClmA T c cx nm N r := fun h X _ sc es _ m => by rw [h] at m; cases m
  have noI : ∀ {r : R}, (∀ tp sc es, mI nm N r tp sc es = false) → ClmI T c cx nm N r := fun h X _ tp sc es _ m => by rw [h] at m; cases m
  have noS : ∀ {r : R}, (∀ sc es, mS nm N r sc es = false) → ClmS T c cx nm N r := fun h X _ sc es _ m => by rw [h] at m; cases m
  have noE : ∀ {r : R}, (∀ tt sc es, mE nm N r tt sc es = false) → ClmE T c cx nm N r := fun h X _ tt sc es _ m => by rw [h] at m; cases m
  have noP : ∀ {r : R}, (∀ sc ks vs, mPr nm N r sc ks vs = false) → ClmP T c cx nm N r := fun h X _ sc ks vs _ m => by rw [h] at m; cases m
  induction r with
  | v i => exact ⟨clm_v hc i, noA fun _ _ => rfl, noI fun _ _ _ => rfl, noS fun _ _ => rfl, noP fun _ _ _ => rfl⟩
  | i n => exact ⟨clm_i hc n, noA fun _ _ => rfl, noI fun _ _ _ => rfl, noS fun _ _ => rfl, noP fun _ _ _ => rfl⟩
  | s n => exact ⟨clm_s hc n, noA fun _ _ => rfl, noI fun _ _ _ => rfl, noS fun _ _ => rfl, noP fun _ _ _ => rfl⟩
  | b n => exact ⟨clm_b hc n, noA fun _ _ => rfl, noI fun _ _ _ => rfl, noS fun _ _ => rfl, noP fun _ _ _ => rfl⟩
  | n => exact ⟨clm_n hc, noA fun _ _ => rfl, noI fun _ _ _ => rfl, noS fun _ _ => rfl, noP fun _ _ _ => rfl⟩
  | g k => exact ⟨clm_g hc k, noA fun _ _ => rfl, noI fun _ _ _ => rfl, noS fun _ _ => rfl, noP fun _ _ _ => rfl⟩
  | o1 o a ia => exact ⟨clm_o1 hc o ia.1, noA fun _ _ => rfl, noI fun _ _ _ => rfl, noS fun _ _ => rfl, noP fun _ _ _ => rfl⟩
  | o2 o a b ia ib => exact ⟨clm_o2 hc o ia.1 ib.1, noA fun _ _ => rfl, noI fun _ _ _ => rfl, noS fun _ _ => rfl, noP fun _ _ _ => rfl⟩
  | nil => exact ⟨noE fun _ _ _ => rfl, clm_nil hc, noI fun _ _ _ => rfl, noS fun _ _ => rfl, clm_nilP hc⟩
  | cons a r ia ir => exact ⟨noE fun _ _ _ => rfl, clm_cons hc ia.1 ir.2.1, noI fun _ _ _ => rfl, noS fun _ _ => rfl, noP fun _ _ _ => rfl⟩
  | consb a r ia ir => exact ⟨noE fun _ _ _ => rfl, clm_consb hc ia.1 ir.2.1, noI fun _ _ _ => rfl, noS fun _ _ => rfl, noP fun _ _ _ => rfl⟩
  | tup as ia => exact ⟨clm_tup hc ia.2.1, noA fun _ _ => rfl, noI fun _ _ _ => rfl, noS fun _ _ => rfl, noP fun _ _ _ => rfl⟩
  | lst as ia => exact ⟨clm_lst hc ia.2.1, noA fun _ _ => rfl, noI fun _ _ _ => rfl, noS fun _ _ => rfl, noP fun _ _ _ => rfl⟩
  | dct => exact ⟨clm_dct hc, noA fun _ _ => rfl, noI fun _ _ _ => rfl, noS fun _ _ => rfl, noP fun _ _ _ => rfl⟩
  | dctp ps ip => exact ⟨clm_dctp hc ip.2.2.2.2, noA fun _ _ => rfl, noI fun _ _ _ => rfl, noS fun _ _ => rfl, noP fun _ _ _ => rfl⟩
  | pr k v r ik iv ir => exact ⟨noE fun _ _ _ => rfl, noA fun _ _ => rfl, noI fun _ _ _ => rfl, noS fun _ _ => rfl, clm_pr hc ik.1 iv.1 ir.2.2.2.2⟩
  | get1 o k io ik => exact ⟨clm_get1 hc io.1 ik.1, noA fun _ _ => rfl, noI fun _ _ _ => rfl, noS fun _ _ => rfl, noP fun _ _ _ => rfl⟩
  | dpop o k io ik => exact ⟨clm_dpop hc io.1 ik.1, noA fun _ _ => rfl, noI fun _ _ _ => rfl, noS fun _ _ => rfl, noP fun _ _ _ => rfl⟩
  | get2 o k d io ik id => exact ⟨clm_get2 hc io.1 ik.1 id.1, noA fun _ _ => rfl, noI fun _ _ _ => rfl, noS fun _ _ => rfl, noP fun _ _ _ => rfl⟩
  | and a r ia ir => exact ⟨clm_and hc ia.1 ir.1, noA fun _ _ => rfl, noI fun _ _ _ => rfl, noS fun _ _ => rfl, noP fun _ _ _ => rfl⟩
  | or a r ia ir => exact ⟨clm_or hc ia.1 ir.1, noA fun _ _ => rfl, noI fun _ _ _ => rfl, noS fun _ _ => rfl, noP fun _ _ _ => rfl⟩
  | kmem neg k a ia => exact ⟨clm_kmem hc neg k ia.1, noA fun _ _ => rfl, noI fun _ _ _ => rfl, noS fun _ _ => rfl, noP fun _ _ _ => rfl⟩
  | kidx k a ia => exact ⟨clm_kidx hc k ia.1, noA fun _ _ => rfl, noI fun _ _ _ => rfl, noS fun _ _ => rfl, noP fun _ _ _ => rfl⟩
  | get2N o k d io ik id => exact ⟨clm_get2N hc io.1 ik.1 id.1, noA fun _ _ => rfl, noI fun _ _ _ => rfl, noS fun _ _ => rfl, noP fun _ _ _ => rfl⟩
  | one a ia => exact ⟨clm_one hc ia.1, noA fun _ _ => rfl, noI fun _ _ _ => rfl, noS fun _ _ => rfl, noP fun _ _ _ => rfl⟩
  | not a ia => exact ⟨clm_not hc ia.1, noA fun _ _ => rfl, noI fun _ _ _ => rfl, noS fun _ _ => rfl, noP fun _ _ _ => rfl⟩
  | ife k a b ik ia ib => exact ⟨clm_ife hc ik.1 ia.1 ib.1, noA fun _ _ => rfl, noI fun _ _ _ => rfl, noS fun _ _ => rfl, noP fun _ _ _ => rfl⟩
  | chain o o' a b k ia ib ik => exact ⟨clm_chain hc o o' ia.1 ib.1 ik.1, noA fun _ _ => rfl, noI fun _ _ _ => rfl, noS fun _ _ => rfl, noP fun _ _ _ => rfl⟩
  | slc a lo hi ia il ih => exact ⟨clm_slc hc ia.1 il.1 ih.1, noA fun _ _ => rfl, noI fun _ _ _ => rfl, noS fun _ _ => rfl, noP fun _ _ _ => rfl⟩
  | call f as ia => exact ⟨clm_call hc f ia.2.1, noA fun _ _ => rfl, noI fun _ _ _ => rfl, noS fun _ _ => rfl, noP fun _ _ _ => rfl⟩
  | meth f o as io ia => exact ⟨clm_meth hc f io.1 ia.2.1, noA fun _ _ => rfl, noI fun _ _ _ => rfl, noS fun _ _ => rfl, noP fun _ _ _ => rfl⟩
  | make ci as ia => exact ⟨clm_make hc ci ia.2.1, noA fun _ _ => rfl, noI fun _ _ _ => rfl, noS fun _ _ => rfl, noP fun _ _ _ => rfl⟩
  | maken ci as ia => exact ⟨clm_maken hc ci ia.2.1, noA fun _ _ => rfl, noI fun _ _ _ => rfl, noS fun _ _ => rfl, noP fun _ _ _ => rfl⟩
  | fld o ci k io => exact ⟨clm_fld hc ci k io.1, noA fun _ _ => rfl, noI fun _ _ _ => rfl, noS fun _ _ => rfl, noP fun _ _ _ => rfl⟩
  | hm m o as io ia => exact ⟨clm_hm hc m io.1 ia.2.1, noA fun _ _ => rfl, noI fun _ _ _ => rfl, noS fun _ _ => rfl, noP fun _ _ _ => rfl⟩
  | comp tg elt it tst ie ii it' => exact ⟨clm_comp hc tg ie.1 ii.2.2.1 it'.1, noA fun _ _ => rfl, noI fun _ _ _ => rfl, noS fun _ _ => rfl, noP fun _ _ _ => rfl⟩
  | itv i => exact ⟨noE fun _ _ _ => rfl, noA fun _ _ => rfl, clm_itvI hc i, clm_itvS hc i, noP fun _ _ _ => rfl⟩
  | ite a ia => exact ⟨noE fun _ _ _ => rfl, noA fun _ _ => rfl, clm_iteI hc ia.1, clm_iteS hc ia.1, noP fun _ _ _ => rfl⟩
  | itk a ia => exact ⟨noE fun _ _ _ => rfl, noA fun _ _ => rfl, clm_itk hc ia.1, noS fun _ _ => rfl, noP fun _ _ _ => rfl⟩
  | itms a ia => exact ⟨noE fun _ _ _ => rfl, noA fun _ _ => rfl, clm_itms hc ia.1, noS fun _ _ => rfl, noP fun _ _ _ => rfl⟩
  | sIt a ia => exact ⟨clm_sIt hc ia.1, noA fun _ _ => rfl, noI fun _ _ _ => rfl, noS fun _ _ => rfl, noP fun _ _ _ => rfl⟩
  | rev a ia => exact ⟨clm_rev hc ia.1, noA fun _ _ => rfl, noI fun _ _ _ => rfl, noS fun _ _ => rfl, noP fun _ _ _ => rfl⟩
  | lrg a ia => exact ⟨clm_lrg hc ia.1, noA fun _ _ => rfl, noI fun _ _ _ => rfl, noS fun _ _ => rfl, noP fun _ _ _ => rfl⟩
  | setop k a ia => exact ⟨clm_setop hc k ia.1, noA fun _ _ => rfl, noI fun _ _ _ => rfl, noS fun _ _ => rfl, noP fun _ _ _ => rfl⟩
  | slen a ia => exact ⟨clm_slen hc ia.1, noA fun _ _ => rfl, noI fun _ _ _ => rfl, noS fun _ _ => rfl, noP fun _ _ _ => rfl⟩
  | upper a ia => exact ⟨clm_upper hc ia.1, noA fun _ _ => rfl, noI fun _ _ _ => rfl, noS fun _ _ => rfl, noP fun _ _ _ => rfl⟩
  | bm1 m o a io ia => exact ⟨clm_bm1 hc m io.1 ia.1, noA fun _ _ => rfl, noI fun _ _ _ => rfl, noS fun _ _ => rfl, noP fun _ _ _ => rfl⟩
  | lockE a ia => exact ⟨clm_lockE hc ia.1, noA fun _ _ => rfl, noI fun _ _ _ => rfl, noS fun _ _ => rfl, noP fun _ _ _ => rfl⟩
  | lockEN a ia => exact ⟨clm_lockEN hc ia.1, noA fun _ _ => rfl, noI fun _ _ _ => rfl, noS fun _ _ => rfl, noP fun _ _ _ => rfl⟩
  | lend i a ia => exact ⟨clm_lend hc i ia.1, noA fun _ _ => rfl, noI fun _ _ _ => rfl, noS fun _ _ => rfl, noP fun _ _ _ => rfl⟩
  | dctn1 k v ik iv => exact ⟨clm_dctn1 hc ik.1 iv.1, noA fun _ _ => rfl, noI fun _ _ _ => rfl, noS fun _ _ => rfl, noP fun _ _ _ => rfl⟩
  | lockV a ia => exact ⟨clm_lockV hc ia.1, noA fun _ _ => rfl, noI fun _ _ _ => rfl, noS fun _ _ => rfl, noP fun _ _ _ => rfl⟩
  | dctn => exact ⟨clm_dctn hc, noA fun _ _ => rfl, noI fun _ _ _ => rfl, noS fun _ _ => rfl, noP fun _ _ _ => rfl⟩
  | stp a k ia ik => exact ⟨clm_stp hc ia.1 ik.1, noA fun _ _ => rfl, noI fun _ _ _ => rfl, noS fun _ _ => rfl, noP fun _ _ _ => rfl⟩
  | enuk a ia => exact ⟨noE fun _ _ _ => rfl, noA fun _ _ => rfl, clm_enuk hc ia.1, noS fun _ _ => rfl, noP fun _ _ _ => rfl⟩
  | itkn a ia => exact ⟨noE fun _ _ _ => rfl, noA fun _ _ => rfl, clm_itkn hc ia.1, noS fun _ _ => rfl, noP fun _ _ _ => rfl⟩
  | ichs a ia => exact ⟨noE fun _ _ _ => rfl, noA fun _ _ => rfl, clm_ichs hc ia.1, noS fun _ _ => rfl, noP fun _ _ _ => rfl⟩
  | rng a ia => exact ⟨noE fun _ _ _ => rfl, noA fun _ _ => rfl, clm_rng hc ia.1, noS fun _ _ => rfl, noP fun _ _ _ => rfl⟩
  | rng3 a b s ia ib is => exact ⟨noE fun _ _ _ => rfl, noA fun _ _ => rfl, clm_rng3 hc ia.1 ib.1 is.1, noS fun _ _ => rfl, noP fun _ _ _ => rfl⟩
  | rng2 a b ia ib => exact ⟨noE fun _ _ _ => rfl, noA fun _ _ => rfl, clm_rng2 hc ia.1 ib.1, noS fun _ _ => rfl, noP fun _ _ _ => rfl⟩
  | enu a ia => exact ⟨noE fun _ _ _ => rfl, noA fun _ _ => rfl, clm_enu hc ia.2.2.2.1, noS fun _ _ => rfl, noP fun _ _ _ => rfl⟩
  | zip a b ia ib => exact ⟨noE fun _ _ _ => rfl, noA fun _ _ => rfl, clm_zip hc ia.2.2.2.1 ib.2.2.2.1, noS fun _ _ => rfl, noP fun _ _ _ => rfl⟩
  | _ => exact ⟨noE fun _ _ _ => rfl, noA fun _ _ => rfl, noI fun _ _ _ => rfl, noS fun _ _ => rfl, noP fun _ _ _ => rfl⟩
end
noncomputable def oneSt : Stmt ⊕ List Stmt → Option Stmt
  | .inl s => some s
  | .inr [s] => some s
  | _ => none
noncomputable def noComp : Expr → Bool
  | .ListComp _ _ _ _ => false
  | .SetComp _ _ _ _ => false
  | .DictComp _ _ _ _ _ => false
  | _ => true
noncomputable def cmpSet (sc : Scope) (y : Str) (py : Pos) : Expr → Bool
  | .ListComp _ _ s pos => (py.line == pos.line) && !(s.names.any fun (n, k) => n == y && (k == .local || k == .cell))
  | _ => false
noncomputable def isCmpR : R → Bool
  | .comp _ _ _ _ => true
  | _ => false
section
variable (nm : Nm) (N : List Str)
noncomputable def mB : R → Scope → (Stmt ⊕ List Stmt) → Bool
  | .seq a r, sc, ob => match ob with
    | .inr sts => match a with
      | .box _ => mB r sc (.inr sts)
      | _ => match sts with
        | st :: rest => mB a sc (.inl st) && mB r sc (.inr rest)
        | [] => false
    | _ => false
  | .skip, sc, ob => match ob with
    | .inr [] => true
    | .inl (.Pass _) => true
    | .inr [.Pass _] => true
    | _ => false
  | .expr e, sc, ob => match oneSt ob with
    | some (.Expr ee _) => noComp ee && mE nm N e false sc ee
    | _ => false
  | .set i e, sc, ob => match oneSt ob with
    | some (.Assign [.Name x py] ee _) => decide (N[i]? = some x) && lcB true sc x && mE nm N e false sc ee && ((noComp ee || celB sc x) || (locB sc x && cmpSet sc x py ee && (match sc.kind with | .function => true | _ => false) && isCmpR e))
    | _ => false
  | .setT is e, sc, ob => match oneSt ob with
    | some (.Assign [.Tuple es k p] ee _) => !(isTupE ee) && tgB.go N (fun _ => true) sc is es && mE nm N e false sc ee
    | _ => false
  | .seti o k e, sc, ob => match oneSt ob with
    | some (.Assign [.Subscript eo ek _] ee _) => plainI ek && mE nm N o false sc eo && mE nm N k false sc ek && mE nm N e false sc ee
    | _ => false
  | .slcset o e, sc, ob => match oneSt ob with
    | some (.Assign [.Subscript eo (.Slice none none none _) _] ee _) => mE nm N o false sc eo && mE nm N e false sc ee
    | _ => false
  | .oseti i k e, sc, ob => match oneSt ob with
    | some (.Assign [.Subscript (.Name x _) ek _] ee _) => plainI ek && vOk N sc i x && mE nm N k false sc ek && mE nm N e false sc ee
    | _ => false
  | .fset o ci k e, sc, ob => match oneSt ob with
    | some (.Assign [.Attribute eo f _] ee _) => decide ((nm.lay ci)[k]? = some f) && nm.isL ci && mE nm N o false sc eo && mE nm N e false sc ee
    | _ => false
  | .setNAN i o ci k j e, sc, ob => match oneSt ob with
    | some (.Assign [.Tuple [.Name x _, .Attribute eo f _, .Name y _] _ _] ee _) => !(isTupE ee) && (decide (N[i]? = some x) && lcB true sc x) && (decide (N[j]? = some y) && lcB true sc y) && decide ((nm.lay ci)[k]? = some f) && nm.isL ci && mE nm N o false sc eo && mE nm N e false sc ee
    | _ => false
  | .faug o ci k e, sc, ob => match oneSt ob with
    | some (.AugAssign (.Attribute eo f _) .Add ee _) => decide ((nm.lay ci)[k]? = some f) && nm.isL ci && mE nm N o false sc eo && mE nm N e false sc ee
    | _ => false
  | .iff k a r, sc, ob => match oneSt ob with
    | some (.If ek ea er _) => mE nm N k true sc ek && mB a sc (.inr ea) && mB r sc (.inr er)
    | _ => false
  | .whl k a, sc, ob => match oneSt ob with
    | some (.While ek ea [] _) => mE nm N k true sc ek && mB a sc (.inr ea)
    | _ => false
  | .for tg it a, sc, ob => match oneSt ob with
    | some (.For etg eit ea [] _) => tgB N (fun _ => true) sc tg etg && mI nm N it (isTupE etg) sc eit && noSet eit && mB a sc (.inr ea)
    | _ => false
  | .ret e, sc, ob => match oneSt ob with
    | some (.Return (some ee) _) => mE nm N e false sc ee
    | _ => false
  | .retn, sc, ob => match oneSt ob with
    | some (.Return none _) => true
    | _ => false
  | .retv i, sc, ob => match oneSt ob with
    | some (.Return (some (.Name x _)) _) => vOk N sc i x
    | _ => false
  | .brk, sc, ob => match oneSt ob with
    | some (.Break _) => true
    | _ => false
  | .cnt, sc, ob => match oneSt ob with
    | some (.Continue _) => true
    | _ => false
  | .never, sc, ob => true
  | .lock st, sc, ob => match oneSt ob with
    | some s => mB st sc (.inl s)
    | _ => false
  | .lockN st, sc, ob => match oneSt ob with
    | some s => mB st sc (.inl s)
    | _ => false
  | .tryp st, sc, ob => match oneSt ob with
    | some (.Try body (_ :: _) [] [] _) => mB st sc (.inr body)
    | _ => false
  | .om m i as dst, sc, ob => match oneSt ob with
    | some (.Expr (.Call (.Attribute (.Name x _) f apos) es [] pos) _) => (match dst with | none => true | _ => false) && vOk N sc i x && decide (f = mN m) && atL apos pos && noStars es && (match es with
      | [] => mA0 m && (match as with | .nil => true | _ => false)
      | _ => mA1 m && mA nm N as sc es)
    | some (.Assign [.Name y _] (.Call (.Attribute (.Name x _) f apos) es [] pos) _) => (match dst with | some j => decide (N[j]? = some y) && lcB true sc y | _ => false) && vOk N sc i x && decide (f = mN m) && atL apos pos && noStars es && (match es with
      | [] => mA0 m && (match as with | .nil => true | _ => false)
      | _ => mA1 m && mA nm N as sc es)
    | _ => false
  | _, _, _ => false
end
section
variable {T : Tbl} {c : Nat → List Vx → Hs → VK2 → Prop} {cx : Cls2} {nm : Nm} {N : List Str} {X : Cx}
noncomputable def OutB (T : Tbl) (c : Nat → List Vx → Hs → VK2 → Prop) (cx : Cls2) (X : Cx) (r : R) (ob : Stmt ⊕ List Stmt) : Prop :=
  (∀ st, ob = .inl st → PS X st (liftS X.K cx (wpS T c r))) ∧ (∀ sts, ob = .inr sts → PSs X sts (liftS X.K cx (wpS T c r)))
structure HpX (X : Cx) : Prop where
  po : PassesOwn (model X.prog X.w) X.A X.env X.xe
  fn : ∀ x, X.fn x = true
noncomputable def ClmB (T : Tbl) (c : Nat → List Vx → Hs → VK2 → Prop) (cx : Cls2) (nm : Nm) (N : List Str) (r : R) : Prop := ∀ X, Okx T c cx nm N X → HpX X → ∀ sc ob, X.env.scope = sc → mB nm N r sc ob = true → OutB T c cx X r ob
theorem out_one {r : R} {ob : Stmt ⊕ List Stmt} {st : Stmt} (e : oneSt ob = some st) (h : PS X st (liftS X.K cx (wpS T c r))) : OutB T c cx X r ob := by
  unfold oneSt at e
  split at e
  · cases e
    exact ⟨fun st z => (by cases z; exact h), fun sts z => (by cases z)⟩
  · cases e
    exact ⟨fun st z => (by cases z), fun sts z => (by cases z; exact pss_one h)⟩
  · cases e
theorem sw_no {e : Expr} (h : noComp e = true) (t : Option Expr) (l : Nat) (env : Env) : swapsWith e t l env = pure false := by
  cases e <;> first | rfl | cases h
theorem sw_tup (e : Expr) (es : List Expr) (k : Nat) (p : Pos) (l : Nat) (env : Env) : swapsWithSole [.Tuple es k p] e l env = pure false := by
  cases e <;> rfl
theorem sw_cel {e : Expr} {x : Str} {py : Pos} {l : Nat} {env : Env} (h : celB env.scope x = true) : swapsWith e (some (.Name x py)) l env = pure false := by
  have k : (env.kindOf x == some .local) = false := by
    unfold celB at h
    unfold Env.kindOf
    split at h
    · rename_i q; rw [q]; rfl
    · cases h
  cases e <;> first | rfl | (show (pure (env.blockKind == .function && env.kindOf x == some .local && _ && _) : Sem Bool) = pure false; rw [k]; simp)
theorem sw_attr (e : Expr) (o : Expr) (f : Str) (p : Pos) (l : Nat) (env : Env) : swapsWith e (some (.Attribute o f p)) l env = pure false := by
  cases e <;> rfl
theorem asg_sub {o i : Expr} {pos : Pos} (h : plainI i = true) : ∀ v, assign (.Subscript o i pos) X.env v = (do
      let ov ← holding [v] (eval o X.env)
      let iv ← holding [v, ov] (eval i X.env)
      standAt pos
      holding [v, ov, iv] (setItem ov iv v)
      release [v, ov, iv] []) := by
  intro v
  cases i <;> first | rfl | cases h
theorem sw_sub (e o i : Expr) (p : Pos) (l : Nat) (env : Env) : swapsWithSole [.Subscript o i p] e l env = pure false := by
  cases e <;> rfl
variable (hc : CalMono c)
include hc
theorem cb_seq {a r : R} (ia : ClmB T c cx nm N a) (ir : ClmB T c cx nm N r) : ClmB T c cx nm N (.seq a r) := fun X h hp sc ob hs m => by
  unfold mB at m
  split at m
  · rename_i sts
    refine ⟨fun st z => (by cases z), fun sts' z => ?_⟩
    cases z
    split at m
    · exact pssImp ((ir X h hp sc _ hs m).2 _ rfl) fun D σ H w => st_box hc w
    · split at m
      · simp only [Bool.and_eq_true] at m
        exact st_seq hc ((ia X h hp sc _ hs m.1).1 _ rfl) ((ir X h hp sc _ hs m.2).2 _ rfl)
      · cases m
  · cases m
theorem cb_skip : ClmB T c cx nm N .skip := fun X h hp sc ob hs m => by
  unfold mB at m
  split at m
  · exact ⟨fun st z => (by cases z), fun sts z => by cases z; exact st_skip hc⟩
  · exact ⟨fun st z => (by cases z; exact st_pass hc), fun sts z => by cases z⟩
  · exact ⟨fun st z => (by cases z), fun sts z => by cases z; exact pss_one (st_pass hc)⟩
  · cases m
theorem cb_expr {e : R} : ClmB T c cx nm N (.expr e) := fun X h hp sc ob hs m => by
  unfold mB at m
  split at m
  · rename_i e1
    simp only [Bool.and_eq_true] at m
    exact out_one e1 (st_expr hc (((clm hc e).1 X h false sc _ hs m.2).1 rfl) (sw_no m.1 _ _ _))
  · cases m
theorem kind_of {sc : Scope} (m : (match sc.kind with | .function => true | _ => false) = true) : sc.kind = .function := by
  split at m
  · assumption
  · cases m
theorem cb_set {i : Nat} {e : R} : ClmB T c cx nm N (.set i e) := fun X h hp sc ob hs m => by
  unfold mB at m
  split at m
  · rename_i x py ee pos e1
    simp only [Bool.and_eq_true, Bool.or_eq_true, decide_eq_true_eq] at m
    obtain ⟨⟨⟨m1, m2⟩, m3⟩, m4⟩ := m
    have hl := lc_of hs (fun _ => hp.fn _) m2
    have hN := h.hN
    subst hN
    refine out_one e1 ?_
    rcases m4 with (m4 | m4) | ⟨⟨⟨m0, m4⟩, m5⟩, m6⟩
    · exact st_set hc (ps_set h.nd m1 hl.1 (((clm hc e).1 X h false sc _ hs m3).1 rfl) (sw_no m4 _ _ _) hl.2) fun _ _ _ z => z
    · exact st_set hc (ps_set h.nd m1 hl.1 (((clm hc e).1 X h false sc _ hs m3).1 rfl) (sw_cel (by rw [hs]; exact m4)) hl.2) fun _ _ _ z => z
    · have hl' : X.env.scope.names.lookup x = some .local := by rw [hs]; exact loc_of m0
      unfold cmpSet at m4
      split at m4
      · rename_i eelt gens scope cpos
        simp only [Bool.and_eq_true, Bool.not_eq_true'] at m4
        cases e with
        | comp tg elt it tst =>
          unfold mE at m3
          split at m3
          · rename_i eelt' etg eit ifs scope' _ e2
            cases e2
            rw [Bool.and_eq_true, Bool.and_eq_true, Bool.and_eq_true, Bool.and_eq_true, Bool.and_eq_true, Bool.and_eq_true] at m3
            obtain ⟨⟨⟨⟨⟨⟨ht, mt⟩, mi⟩, mb⟩, mn⟩, me⟩, mf⟩ := m3
            refine st_set hc (ps_setLc h.calm h.nd m1 hl' (sw_true (by rw [hs]; exact kind_of hc m5) hl' m4.1 m4.2) ((clm hc it).2.2.1 X h (isTupE etg) sc _ hs mi etg fun z => z) (blkOk_by (own := ownN X.N tg.is) (by rw [hs]; exact mb)) (g := tgG X.K tg) (tt := liftT X.K cx (wpE T c tst)) (te := liftE X.K cx (wpE T c elt))
              (fun s H C cl fp => ?_) (fun s H C cl fp => ?_) (fun s H C cl fp => ?_) (set_of mn)) fun σ H Q w => lc_ok hc (ownN_snd _ _) (fun _ _ _ h => h) (fun _ _ _ h => h) (fun _ _ _ h => h) w
            · exact tg_of (X := X.blk s H scope (compEnvC scope cl C X.env) fp) (fun x z => z) h.calm h.nd (show relS scope X.env.scope = relS scope sc by rw [hs]) mt
            · split at mf
              · split at mf
                · exact pts_tt hc
                · cases mf
              · exact pts_one (((clm hc tst).1 _ (h.blk s H scope (compEnvC scope cl C X.env) fp) true _ _ (show relS scope X.env.scope = relS scope sc by rw [hs]) mf).2 rfl).1
              · cases mf
            · exact ((clm hc elt).1 _ (h.blk s H scope (compEnvC scope cl C X.env) fp) false _ _ (show relS scope X.env.scope = relS scope sc by rw [hs]) me).1 rfl
          · cases m3
        | _ => cases m6
      · cases m4
  · cases m
theorem cb_setT {is : List Nat} {e : R} : ClmB T c cx nm N (.setT is e) := fun X h hp sc ob hs m => by
  unfold mB at m
  split at m
  · rename_i es k p ee pos e1
    simp only [Bool.and_eq_true, Bool.not_eq_true'] at m
    obtain ⟨⟨m2, m3⟩, m4⟩ := m
    have hN := h.hN
    subst hN
    obtain ⟨h1, h2, h3⟩ := tgN_of (fun x _ => hp.fn x) h.calm h.nd hs _ _ m3
    have hw : swappedStores [.Tuple es k p] ee X.env = pure none := by
      cases ee <;> first | rfl | cases m2
    exact out_one e1 (st_setT hc (ps_asg (((clm hc e).1 X h false sc _ hs m4).1 rfl) (pg_seq h.calm h1 h2 h3) (sw_tup _ _ _ _ _ _) hw rfl))
  · cases m
theorem cb_setNAN {i j ci k : Nat} {o e : R} : ClmB T c cx nm N (.setNAN i o ci k j e) := fun X h hp sc ob hs m => by
  unfold mB at m
  split at m
  · rename_i x px eo f pa y py kt pt ee pos e1
    simp only [Bool.and_eq_true, Bool.not_eq_true', decide_eq_true_eq] at m
    obtain ⟨⟨⟨⟨⟨⟨m1, mx1, mx2⟩, my1, my2⟩, m4⟩, m5⟩, m6⟩, m7⟩ := m
    have hN := h.hN
    subst hN
    have lx := lc_of hs (fun _ => hp.fn _) mx2
    have ly := lc_of hs (fun _ => hp.fn _) my2
    have hw : ∀ es, swappedStores [.Tuple es kt pt] ee X.env = pure none := fun es => by
      cases ee <;> first | rfl | cases m1
    exact out_one e1 (st_setNAN hc h.calm (h.cl ci m5) (by rw [h.lay]; exact m4) (pg_name h.nd mx1 lx.1 lx.2) (pg_name h.nd my1 ly.1 ly.2) (((clm hc o).1 X h false sc _ hs m6).1 rfl) (((clm hc e).1 X h false sc _ hs m7).1 rfl) (sw_tup _ _ _ _ _ _) (hw _))
  · cases m
theorem cb_seti {o k e : R} : ClmB T c cx nm N (.seti o k e) := fun X h hp sc ob hs m => by
  unfold mB at m
  split at m
  · rename_i eo ek p ee pos e1
    simp only [Bool.and_eq_true] at m
    obtain ⟨⟨⟨m2, m3⟩, m4⟩, m5⟩ := m
    exact out_one e1 (st_seti hc (ps_asg (((clm hc e).1 X h false sc _ hs m5).1 rfl) (pg_sub (((clm hc o).1 X h false sc _ hs m3).1 rfl) (((clm hc k).1 X h false sc _ hs m4).1 rfl) (pset_ok h.un h.wd) (asg_sub m2)) (sw_sub _ _ _ _ _ _) rfl rfl))
  · cases m
theorem cb_slcset {o e : R} : ClmB T c cx nm N (.slcset o e) := fun X h hp sc ob hs m => by
  unfold mB at m
  split at m
  · rename_i eo p0 p ee pos e1
    simp only [Bool.and_eq_true] at m
    obtain ⟨m2, m3⟩ := m
    exact out_one e1 (st_slcset hc (ps_asg (((clm hc e).1 X h false sc _ hs m3).1 rfl) (pg_slA (((clm hc o).1 X h false sc _ hs m2).1 rfl)) (sw_sub _ _ _ _ _ _) rfl rfl))
  · cases m
theorem cb_oseti {i : Nat} {k e : R} : ClmB T c cx nm N (.oseti i k e) := fun X h hp sc ob hs m => by
  unfold mB at m
  split at m
  · rename_i x px ek p ee pos e1
    simp only [Bool.and_eq_true] at m
    obtain ⟨⟨⟨m2, m3⟩, m4⟩, m5⟩ := m
    obtain ⟨h1, h2, h3, h4⟩ := vOk_of h hs m3
    exact out_one e1 (st_oseti hc (ps_asg (((clm hc e).1 X h false sc _ hs m5).1 rfl) (pg_sub (pe_var h1 h2 h3 h4) (((clm hc k).1 X h false sc _ hs m4).1 rfl) (pset_ok h.un h.wd) (asg_sub m2)) (sw_sub _ _ _ _ _ _) rfl rfl))
  · cases m
theorem cb_fset {o e : R} {ci k : Nat} : ClmB T c cx nm N (.fset o ci k e) := fun X h hp sc ob hs m => by
  unfold mB at m
  split at m
  · rename_i eo f p ee pos e1
    simp only [Bool.and_eq_true, decide_eq_true_eq] at m
    obtain ⟨⟨⟨m1, m2⟩, m3⟩, m4⟩ := m
    exact out_one e1 (st_fset hc (h.cl ci m2) (by rw [h.lay]; exact m1) (((clm hc o).1 X h false sc _ hs m3).1 rfl) (((clm hc e).1 X h false sc _ hs m4).1 rfl) (sw_attr _ _ _ _ _ _))
  · cases m
theorem cb_faug {o e : R} {ci k : Nat} : ClmB T c cx nm N (.faug o ci k e) := fun X h hp sc ob hs m => by
  unfold mB at m
  split at m
  · rename_i eo f p ee pos e1
    simp only [Bool.and_eq_true, decide_eq_true_eq] at m
    obtain ⟨⟨⟨m1, m2⟩, m3⟩, m4⟩ := m
    exact out_one e1 (st_faug hc (h.cl ci m2) (by rw [h.lay]; exact m1) (((clm hc o).1 X h false sc _ hs m3).1 rfl) (((clm hc e).1 X h false sc _ hs m4).1 rfl))
  · cases m
theorem cb_iff {k a r : R} (ia : ClmB T c cx nm N a) (ir : ClmB T c cx nm N r) : ClmB T c cx nm N (.iff k a r) := fun X h hp sc ob hs m => by
  unfold mB at m
  split at m
  · rename_i ek ea er pos e1
    simp only [Bool.and_eq_true] at m
    exact out_one e1 (st_iff hc (((clm hc k).1 X h true sc _ hs m.1.1).2 rfl).1 ((ia X h hp sc _ hs m.1.2).2 _ rfl) ((ir X h hp sc _ hs m.2).2 _ rfl))
  · cases m
theorem cb_whl {k a : R} (ia : ClmB T c cx nm N a) : ClmB T c cx nm N (.whl k a) := fun X h hp sc ob hs m => by
  unfold mB at m
  split at m
  · rename_i ek ea pos e1
    simp only [Bool.and_eq_true] at m
    exact out_one e1 (st_whl hc hp.po (((clm hc k).1 X h true sc _ hs m.1).2 rfl).1 ((ia X h hp sc _ hs m.2).2 _ rfl))
  · cases m
theorem cb_for {tg : Tg} {it a : R} (ia : ClmB T c cx nm N a) : ClmB T c cx nm N (.for tg it a) := fun X h hp sc ob hs m => by
  unfold mB at m
  split at m
  · rename_i etg eit ea pos e1
    simp only [Bool.and_eq_true] at m
    obtain ⟨⟨⟨m1, m2⟩, m3⟩, m4⟩ := m
    have hN := h.hN
    subst hN
    exact out_one e1 (st_for hc hp.po h.calm ((clm hc it).2.2.1 X h (isTupE etg) sc _ hs m2 etg fun z => z) (tg_of (fun x _ => hp.fn x) h.calm h.nd hs m1) ((ia X h hp sc _ hs m4).2 _ rfl) (set_of m3))
  · cases m
theorem cb_ret {e : R} : ClmB T c cx nm N (.ret e) := fun X h hp sc ob hs m => by
  unfold mB at m
  split at m
  · rename_i ee pos e1
    exact out_one e1 (st_ret hc (((clm hc e).1 X h false sc _ hs m).1 rfl))
  · cases m
theorem cb_retn : ClmB T c cx nm N .retn := fun X h hp sc ob hs m => by
  unfold mB at m
  split at m
  · rename_i pos e1
    exact out_one e1 (st_retn hc)
  · cases m
theorem cb_retv {i : Nat} : ClmB T c cx nm N (.retv i) := fun X h hp sc ob hs m => by
  unfold mB at m
  split at m
  · rename_i x p pos e1
    obtain ⟨h1, h2, h3, h4⟩ := vOk_of h hs m
    exact out_one e1 (st_retv hc h1 h2 h3 h4)
  · cases m
theorem cb_brk : ClmB T c cx nm N .brk := fun X h hp sc ob hs m => by
  unfold mB at m
  split at m
  · rename_i pos e1
    exact out_one e1 (st_brk hc)
  · cases m
theorem cb_cnt : ClmB T c cx nm N .cnt := fun X h hp sc ob hs m => by
  unfold mB at m
  split at m
  · rename_i pos e1
    exact out_one e1 (st_cnt hc)
  · cases m
theorem cb_never : ClmB T c cx nm N .never := fun X h hp sc ob hs m => ⟨fun st z => st_never hc, fun sts z => st_nevers hc⟩
theorem om_pe {mm : M} {i : Nat} {as : R} (h : Okx T c cx nm N X) {sc : Scope} (hs : X.env.scope = sc) {x f : Str} {es : List Expr} {p apos pos : Pos} (mv : vOk N sc i x = true) (hf : f = mN mm) (hl : atL apos pos = true) (m : (match es with
      | [] => mA0 mm && (match as with | .nil => true | _ => false)
      | _ => mA1 mm && mA nm N as sc es) = true) (hst : noStars es = true) : ∃ te : TE, PE X (.Call (.Attribute (.Name x p) f apos) es [] pos) te ∧ ∀ σ H Q, tBM X.K "list" (mOf X.K cx mm) (tVar i) (liftA X.K cx (wpE T c as)) σ H Q → te σ H Q := by
  obtain ⟨h1, h2, h3, h4⟩ := vOk_of h hs mv
  have po : PE X (.Name x p) (tVar i) := pe_var h1 h2 h3 h4
  have hsu : noSup (.Name x p) = true := rfl
  subst hf
  cases es with
  | nil =>
    simp only [Bool.and_eq_true] at m
    have e := as_nil hc m.2
    subst e
    have key : ∀ σ H Q, tBM X.K "list" (mOf X.K cx mm) (tVar i) (liftA X.K cx (wpE T c .nil)) σ H Q → tBM0 X.K "list" (mOf X.K cx mm) (tVar i) σ H Q := fun σ H Q ⟨v, e, ty, w⟩ => by
      obtain ⟨S, σ2, hr, rs, w⟩ := w
      exact ⟨v, e, ty, w [] H hr .refl .nil⟩
    cases mm with
    | pop => exact ⟨_, pe_bm0 PySem.F.plainAttrs_list PySem.F.slot_list_pop PySem.F.type_list_pop mut_pop po (base_of hsu _) hl, key⟩
    | clear => exact ⟨_, pe_bm0 PySem.F.plainAttrs_list PySem.F.slot_list_clear PySem.F.type_list_clear mut_clear po (base_of hsu _) hl, key⟩
    | _ => cases m.1
  | cons e es =>
    simp only [Bool.and_eq_true] at m
    have pa := (clm hc as).2.1 X h sc _ hs m.2
    have s1 := star_of (stars_tl hst).1 es X.env
    cases mm with
    | append => exact ⟨_, pe_bm PySem.F.plainAttrs_list PySem.F.slot_list_append PySem.F.type_list_append mut_append po pa (base_of hsu _) (few_of hst _) hl s1 (stars_of (stars_tl hst).2 _ _).1, fun _ _ _ z => z⟩
    | popAt => exact ⟨_, pe_bm PySem.F.plainAttrs_list PySem.F.slot_list_pop PySem.F.type_list_pop mut_popAt po pa (base_of hsu _) (few_of hst _) hl s1 (stars_of (stars_tl hst).2 _ _).1, fun _ _ _ z => z⟩
    | remove => exact ⟨_, pe_bm PySem.F.plainAttrs_list PySem.F.slot_list_remove PySem.F.type_list_remove mut_remove po pa (base_of hsu _) (few_of hst _) hl s1 (stars_of (stars_tl hst).2 _ _).1, fun _ _ _ z => z⟩
    | insert => exact ⟨_, pe_bm PySem.F.plainAttrs_list PySem.F.slot_list_insert PySem.F.type_list_insert mut_insert po pa (base_of hsu _) (few_of hst _) hl s1 (stars_of (stars_tl hst).2 _ _).1, fun _ _ _ z => z⟩
    | extend => exact ⟨_, pe_bm PySem.F.plainAttrs_list PySem.F.slot_list_extend PySem.F.type_list_extend mut_extend po pa (base_of hsu _) (few_of hst _) hl s1 (stars_of (stars_tl hst).2 _ _).1, fun _ _ _ z => z⟩
    | _ => cases m.1
theorem cb_om {mm : M} {i : Nat} {as : R} {dst : Option Nat} : ClmB T c cx nm N (.om mm i as dst) := fun X h hp sc ob hs m => by
  unfold mB at m
  split at m
  · rename_i x p f apos es pos spos e1
    rw [Bool.and_eq_true, Bool.and_eq_true, Bool.and_eq_true, Bool.and_eq_true, Bool.and_eq_true] at m
    obtain ⟨⟨⟨⟨⟨m1, m2⟩, m3⟩, m4⟩, m5⟩, m6⟩ := m
    obtain ⟨te, q, w⟩ := om_pe hc (mm := mm) (as := as) (p := p) h hs m2 (of_decide_eq_true m3) m4 m6 m5
    cases dst with
    | none => exact out_one e1 (st_om (es := []) hc w none (ps_expr q (sw_no rfl _ _ _)))
    | some j => cases m1
  · rename_i y py x p f apos es pos spos e1
    rw [Bool.and_eq_true, Bool.and_eq_true, Bool.and_eq_true, Bool.and_eq_true, Bool.and_eq_true] at m
    obtain ⟨⟨⟨⟨⟨m1, m2⟩, m3⟩, m4⟩, m5⟩, m6⟩ := m
    obtain ⟨te, q, w⟩ := om_pe hc (mm := mm) (as := as) (p := p) h hs m2 (of_decide_eq_true m3) m4 m6 m5
    cases dst with
    | none => cases m1
    | some j =>
      simp only [Bool.and_eq_true, decide_eq_true_eq] at m1
      have hl := lc_of hs (fun _ => hp.fn _) m1.2
      have hN := h.hN
      subst hN
      exact out_one e1 (st_om (es := []) hc w (some j) (ps_set h.nd m1.1 hl.1 q (sw_no rfl _ _ _) hl.2))
  · cases m
theorem cb_lock {st : R} (ia : ClmB T c cx nm N st) : ClmB T c cx nm N (.lock st) := fun X h hp sc ob hs m => by
  unfold mB at m
  split at m
  · rename_i s e1
    exact out_one e1 (st_lock hc ((ia X h hp sc _ hs m).1 _ rfl))
  · cases m
theorem cb_lockN {st : R} (ia : ClmB T c cx nm N st) : ClmB T c cx nm N (.lockN st) := fun X h hp sc ob hs m => by
  unfold mB at m
  split at m
  · rename_i s e1
    exact out_one e1 (st_lockN hc ((ia X h hp sc _ hs m).1 _ rfl))
  · cases m
theorem cb_tryp {st : R} (ia : ClmB T c cx nm N st) : ClmB T c cx nm N (.tryp st) := fun X h hp sc ob hs m => by
  unfold mB at m
  split at m
  · rename_i body h0 hr pos e1
    exact out_one e1 (ps_try_thru0 ((ia X.nox h.nox ⟨PassesOwn.never, hp.fn⟩ sc _ hs m).2 _ rfl))
  · cases m
theorem cb (r : R) : ClmB T c cx nm N r := by
  have no : ∀ {r : R}, (∀ sc ob, mB nm N r sc ob = false) → ClmB T c cx nm N r := fun h X _ _ sc ob _ m => by rw [h] at m; cases m
  induction r with
  | seq a r ia ir => exact cb_seq hc ia ir
  | skip => exact cb_skip hc
  | expr e _ => exact cb_expr hc
  | set i e _ => exact cb_set hc
  | setT is e _ => exact cb_setT hc
  | seti o k e _ _ _ => exact cb_seti hc
  | slcset o e _ _ => exact cb_slcset hc
  | oseti i k e _ _ => exact cb_oseti hc
  | setNAN i o ci k j e _ _ => exact cb_setNAN hc
  | fset o ci k e _ _ => exact cb_fset hc
  | faug o ci k e _ _ => exact cb_faug hc
  | iff k a r _ ia ir => exact cb_iff hc ia ir
  | whl k a _ ia => exact cb_whl hc ia
  | «for» tg it a _ ia => exact cb_for hc ia
  | ret e _ => exact cb_ret hc
  | retn => exact cb_retn hc
  | retv i => exact cb_retv hc
  | brk => exact cb_brk hc
  | cnt => exact cb_cnt hc
  | never => exact cb_never hc
  | lock st ia => exact cb_lock hc ia
  | lockN st ia => exact cb_lockN hc ia
  | tryp st ia => exact cb_tryp hc ia
  | om m i as dst _ => exact cb_om hc
  | _ => exact no fun _ _ => rfl
end
structure DefI where
  id : Nat
  name : Str
  qual : Str
  st : Stmt
  N : List Str
  ps : List Str
  fn : Fn
  mt : Option Nat
  dn : Bool := false
structure ClsI where
  id : Nat
  name : Str
  lay : List Str
  ini : Nat
structure Inf where
  defs : List DefI
  clss : List ClsI
  gls : List (Nat × Str × Vx)
  kds : List (Nat × Str × List (List Nat × D)) := []
noncomputable def Inf.df (L : Inf) (f : Nat) : Option DefI := L.defs.find? fun d => d.id == f
noncomputable def Inf.cl (L : Inf) (f : Nat) : Option ClsI := L.clss.find? fun d => d.id == f
noncomputable def Inf.gl (L : Inf) (k : Nat) : Option (Nat × Str × Vx) := L.gls.find? fun d => d.1 == k
noncomputable def Inf.kdf (L : Inf) (k : Nat) : Option (Nat × Str × List (List Nat × D)) := L.kds.find? fun d => d.1 == k
noncomputable def Inf.T (L : Inf) : Tbl where
  fn f := (L.df f).map (·.fn)
  glob k := match L.gl k with
    | some g => g.2.2
    | none => .d .non
  cini c := match L.cl c with
    | some c => c.ini
    | none => 0
  fcls f := match L.df f with
    | some d => d.mt.getD 0
    | none => 0
  kd k := match L.kdf k with
    | some g => g.2.2
    | none => []
noncomputable def Inf.nm (L : Inf) : Nm where
  fnm f := match L.df f with
    | some d => d.name
    | none => ""
  mnm f := match L.df f with
    | some d => d.name
    | none => ""
  gnm k := match L.gl k with
    | some g => g.2.1
    | none => ""
  cnm c := match L.cl c with
    | some c => c.name
    | none => ""
  lay c := match L.cl c with
    | some c => c.lay
    | none => []
  isF f := match L.df f with
    | some d => d.mt.isNone
    | none => false
  isM f := match L.df f with
    | some d => d.mt.isSome
    | none => false
  isG k := (L.gl k).isSome
  isC c := match L.cl c with
    | some c => (match L.df c.ini with
      | some d => decide (d.mt = some c.id) && decide (d.name = ("__init__" : Str))
      | none => false)
    | none => false
  isD c := match L.cl c with
    | some c => (match L.df c.ini with
      | some d => decide (d.mt = some c.id) && decide (d.name = ("__init__" : Str)) && d.dn
      | none => false)
    | none => false
  isL c := (L.cl c).isSome
  isK k := (L.kdf k).isSome
  knm k := match L.kdf k with
    | some g => g.2.1
    | none => ""
noncomputable def scB (N ps : List Str) (sc : Scope) : Bool :=
  (match sc.kind with | .function => true | _ => false) && !sc.isCoroutine && !sc.isGenerator && decide (N.Nodup) && decide (N.take ps.length = ps) &&
    (ps.all fun x => match sc.names.lookup x with | some .local => true | some .cell => true | _ => false) && (sc.names.all fun y => match y.2 with | .free => false | _ => true)
theorem sc_of {N ps : List Str} {sc : Scope} (h : scB N ps sc = true) : FnScope N ps sc := by
  unfold scB at h
  simp only [Bool.and_eq_true, Bool.not_eq_true', decide_eq_true_eq, List.all_eq_true] at h
  obtain ⟨⟨⟨⟨⟨⟨h1, h2⟩, h3⟩, h4⟩, h5⟩, h6⟩, h7⟩ := h
  refine ⟨?_, h2, h3, h4, h5, fun x hx => ?_, fun y hy e => ?_⟩
  · split at h1
    · assumption
    · cases h1
  · have q := h6 x hx
    split at q
    · exact .inl (by assumption)
    · exact .inr (by assumption)
    · cases q
  · have q := h7 y hy
    rw [e] at q
    cases q
noncomputable def chkD (L : Inf) (d : DefI) : Bool := scB d.N d.ps (defScope d.st) && decide (d.fn.np = d.ps.length) && decide (d.fn.nl = d.N.length) && mB L.nm d.N d.fn.body (defScope d.st) (.inr (defBody d.st))
structure FunW (K : Frag) (x qual : Str) (st : Stmt) (f : Addr) (fd : FuncData) : Prop where
  ex : ∃ (oc : Value) (od : Option Addr) (dV kV doc pm : Value) (an : Option Addr) (cdv ct : Value) (osl : Array (Option Value)),
    fd = PySem.W.fnOf x qual (defArgs st) (defBody st) (defScope st) dV kV doc pm an cdv ct ∧ K.lookup f = some ⟨oc, od, .func fd, osl⟩ ∧ PySem.W.codeIn K cdv qual = true
theorem FunW.ok {P : Program} {w : World} {K : Frag} {mg : Str → Option Value} {base : Heap} {x qual : Str} {st : Stmt} {f : Addr} {fd : FuncData} {N ps : List Str} {k : Nat} {sp : Sp} (F : FunW K x qual st f fd) (S : FnScope N ps (defScope st)) (len : ∀ vs H Q E, sp vs H Q E → vs.length = ps.length)
    (hb : ∀ (cdv : Value) (A : Around) (outer : List Env) (s : Shared) (H : Hp) (vs : List V) (Q : VK) (E : XK), Room k (A.deeper (envOfC qual (defScope st) s.heap.objs.size f cdv)) → sp vs H Q E →
      ∃ t, PSs (cxOf CX0 P w K mg base N qual (defScope st) f cdv A outer s H E).nox (defBody st) t ∧ t { nx := fun _ H' => Q .non H', rt := Q } (L2.start N vs) H) : FnOk P w K mg base CX0 (k + 1) f fd ps sp := by
  obtain ⟨oc, od, dV, kV, doc, pm, an, cdv, ct, osl, rfl, lk, hcd⟩ := F.ex
  exact fn_of lk hcd S len fun A outer s H vs Q E hr hsp => match hb cdv A outer s H vs Q E hr hsp with
    | ⟨t, h, q⟩ => ⟨t, h.nox, q⟩
theorem FunW.of {K : Frag} {x qual : Str} {st : Stmt} {f : Addr} {fd : FuncData} (F : Fun K x qual st f fd) : FunW K x qual st f fd := by
  obtain ⟨oc, od, kV, doc, pm, an, cdv, ct, osl, e, lk, hcd⟩ := F.ex
  exact ⟨oc, od, .none, kV, doc, pm, an, cdv, ct, osl, e, lk, hcd⟩
structure FunAt (L : Inf) (K : Frag) (mg : Str → Option Value) (adr : Nat → Addr) (d : DefI) (fa : Addr) (fd : FuncData) : Prop where
  f : FunW K d.name d.qual d.st fa fd
  b : Binds K fd d.ps []
  b1 : d.dn = true → ∃ ds, Vals [V.non] ds ∧ Binds K fd d.ps ds
  r : match d.mt with
    | none => mg d.name = some (.ref fa) ∧ PySem.W.keepIn K (.ref fa) = true
    | some ci => Cls K (adr ci) ∧ Meth K (adr ci) d.name fa ∧ d.name ∉ L.nm.lay ci
structure Facts (L : Inf) (K : Frag) (mg : Str → Option Value) (adr : Nat → Addr) (w : World) : Prop where
  df : ∀ d ∈ L.defs, ∃ fa fd, FunAt L K mg adr d fa fd
  cl : ∀ c ∈ L.clss, ClsOk K ⟨adr, L.nm.lay, w⟩ c.id ∧ PySem.W.makesIn K (adr c.id) = true ∧ PySem.W.keepIn K (.ref (adr c.id)) = true ∧ mg c.name = some (.ref (adr c.id))
  gl : ∀ g ∈ L.gls, ∃ v u, mg g.2.1 = some u ∧ RelV v u ∧ own g.2.2 = false ∧ ∀ S H, Rel K ⟨adr, L.nm.lay, w⟩ S H → RepX K H S g.2.2 v
  blt : ∀ x ∈ bltNames, mg x = none
  kd : ∀ g ∈ L.kds, KdOk K w mg g.2.1 g.2.2
structure Inf.Chk (L : Inf) : Prop where
  d : ∀ d ∈ L.defs, chkD L d = true
  ids : ∀ d ∈ L.defs, L.df d.id = some d
theorem startS_len {nl : Nat} {xs : List Vx} (h : xs.length ≤ nl) : (startS nl xs).length = nl := by unfold startS; simp; omega
theorem start_at {N : List Str} {xs : List Vx} {vs : List V} {K : Frag} {S : Hs} {H : Hp} (r : Paired (RepX K H S) xs vs) : ∀ (i : Nat) (x : Vx), (startS N.length xs)[i]? = some (some x) → x ∈ xs ∧ ∃ v, (L2.start N vs)[i]? = some (some v) ∧ RepX K H S x v := by
  intro i x e
  have hl := Paired.length r
  unfold startS at e
  unfold L2.start
  by_cases hi : i < xs.length
  · rw [List.getElem?_append_left (by simpa using hi)] at e
    rw [List.getElem?_append_left (by simpa [← hl] using hi)]
    rw [List.getElem?_map] at e
    cases q : xs[i]? with
    | none => rw [q] at e; cases e
    | some y =>
      rw [q] at e
      cases e
      refine ⟨List.mem_of_getElem? q, ?_⟩
      clear hi hl
      induction r generalizing i with
      | nil => simp at q
      | cons p t ih =>
        cases i with
        | zero => simp at q; subst q; exact ⟨_, rfl, p⟩
        | succ i =>
          have q' := by simpa using q
          obtain ⟨v, h1, h2⟩ := ih i q'
          exact ⟨v, by simpa using h1, h2⟩
  · rw [List.getElem?_append_right (by simpa using Nat.le_of_not_lt hi)] at e
    have := List.mem_of_getElem? e
    simp at this
section
variable {L : Inf} {P : Program} {w : World} {K : Frag} {mg : Str → Option Value} {base : Heap} {adr : Nat → Addr}
theorem df_of (hL : L.Chk) {f : Nat} {d : DefI} (e : L.df f = some d) : d ∈ L.defs ∧ d.id = f := by
  unfold Inf.df at e
  exact ⟨List.mem_of_find?_eq_some e, by have := List.find?_some e; simpa using this⟩
theorem cl_of {f : Nat} {d : ClsI} (e : L.cl f = some d) : d ∈ L.clss ∧ d.id = f := by
  unfold Inf.cl at e
  exact ⟨List.mem_of_find?_eq_some e, by have := List.find?_some e; simpa using this⟩
theorem gl_of' {f : Nat} {d : Nat × Str × Vx} (e : L.gl f = some d) : d ∈ L.gls ∧ d.1 = f := by
  unfold Inf.gl at e
  exact ⟨List.mem_of_find?_eq_some e, by have := List.find?_some e; simpa using this⟩
theorem num_ok (hL : L.Chk) (n : Nat) {d : DefI} (hd : d ∈ L.defs) : NumOk (cal L.T n) d.id d.ps.length := by
  intro xs S Q h
  cases n with
  | zero => exact h.elim
  | succ n =>
    obtain ⟨F, e, l, _⟩ := h
    have hc := hL.d d hd
    have ef : L.T.fn d.id = some d.fn := by show (L.df d.id).map (·.fn) = _; rw [hL.ids d hd]; rfl
    rw [ef] at e; cases e
    unfold chkD at hc
    simp only [Bool.and_eq_true, decide_eq_true_eq] at hc
    rw [l, hc.1.1.2]
theorem lev (hL : L.Chk) (X : Facts L K mg adr w) : ∀ n, ∀ d ∈ L.defs, ∀ fa fd, FunAt L K mg adr d fa fd → FnOk P w K mg base CX0 (2 * n) fa fd d.ps (spOf K ⟨adr, L.nm.lay, w⟩ (cal L.T n) d.id d.ps.length)
  | 0, d, hd, fa, fd, hf => ⟨fun vs H Q E h => h.1, fun A outer s H args us vs Q E _ _ _ _ h => by obtain ⟨_, S, xs, _, _, w⟩ := h; exact w.elim⟩
  | n + 1, d, hd, fa, fd, hf => by
    have hc := hL.d d hd
    unfold chkD at hc
    simp only [Bool.and_eq_true, decide_eq_true_eq] at hc
    obtain ⟨⟨⟨c1, c2⟩, c3⟩, c4⟩ := hc
    have ef : L.T.fn d.id = some d.fn := by show (L.df d.id).map (·.fn) = _; rw [hL.ids d hd]; rfl
    have ih := lev hL X n
    refine hf.f.ok (k := 2 * n + 1) (sc_of c1) (fun vs H Q E h => h.1) fun cdv A outer s H vs Q E hr h => ?_
    obtain ⟨hl, S, xs, hrel, hp, F, e, ll, ho, wp⟩ := h
    rw [ef] at e; cases e
    have okx : Okx L.T (cal L.T n) ⟨adr, L.nm.lay, w⟩ L.nm d.N (cxOf CX0 P w K mg base d.N d.qual (defScope d.st) fa cdv A outer s H E).nox := by
      refine ⟨rfl, rfl, (sc_of c1).nd, by have := hr.un; show (A.deeper _).units + 65 < _; omega, X.blt, rfl, rfl, fun f hf => ?_, fun f hf => ?_, fun ci hf => ?_, fun ci hf => ?_, fun ci hf => ?_, fun k hf => ?_, fun k hf => ?_⟩
      · cases q : L.df f with
        | none => rw [show L.nm.isF f = (match L.df f with | some d => d.mt.isNone | none => false) from rfl, q] at hf; cases hf
        | some d' =>
          rw [show L.nm.isF f = (match L.df f with | some d => d.mt.isNone | none => false) from rfl, q] at hf
          obtain ⟨hd', rfl⟩ := df_of hL q
          obtain ⟨fa', fd', g⟩ := X.df d' hd'
          have r := g.r
          rw [show d'.mt = none from Option.isNone_iff_eq_none.mp hf] at r
          refine ⟨2 * n, fa', fd', d'.ps, d'.ps.length, ih d' hd' fa' fd' g, num_ok hL n hd', hr.mono (by omega), ?_, r.2, g.b⟩
          show mg (match L.df d'.id with | some d => d.name | none => "") = _
          rw [q]; exact r.1
      · cases q : L.df f with
        | none => rw [show L.nm.isM f = (match L.df f with | some d => d.mt.isSome | none => false) from rfl, q] at hf; cases hf
        | some d' =>
          rw [show L.nm.isM f = (match L.df f with | some d => d.mt.isSome | none => false) from rfl, q] at hf
          obtain ⟨hd', rfl⟩ := df_of hL q
          obtain ⟨fa', fd', g⟩ := X.df d' hd'
          obtain ⟨ci, eci⟩ := Option.isSome_iff_exists.mp hf
          have r := g.r
          rw [eci] at r
          have e1 : L.T.fcls d'.id = ci := by show (match L.df d'.id with | some d => d.mt.getD 0 | none => 0) = _; rw [q]; simp [eci]
          have e2 : L.nm.mnm d'.id = d'.name := by show (match L.df d'.id with | some d => d.name | none => "") = _; rw [q]
          refine ⟨2 * n, fa', fd', d'.ps, d'.ps.length, ?_, ?_, ?_, ih d' hd' fa' fd' g, num_ok hL n hd', hr.mono (by omega), g.b⟩
          · rw [e1]; exact r.1
          · rw [e1, e2]; exact r.2.1
          · rw [e1, e2]; exact r.2.2
      · cases q : L.cl ci with
        | none => rw [show L.nm.isC ci = (match L.cl ci with | some c => (match L.df c.ini with | some d => decide (d.mt = some c.id) && decide (d.name = ("__init__" : Str)) | none => false) | none => false) from rfl, q] at hf; cases hf
        | some c =>
          rw [show L.nm.isC ci = (match L.cl ci with | some c => (match L.df c.ini with | some d => decide (d.mt = some c.id) && decide (d.name = ("__init__" : Str)) | none => false) | none => false) from rfl, q] at hf
          obtain ⟨hcm, rfl⟩ := cl_of q
          simp only at hf
          cases q2 : L.df c.ini with
          | none => rw [q2] at hf; cases hf
          | some d' =>
            rw [q2] at hf
            simp only [Bool.and_eq_true, decide_eq_true_eq] at hf
            obtain ⟨hd', eid⟩ := df_of hL q2
            obtain ⟨fa', fd', g⟩ := X.df d' hd'
            have r := g.r
            rw [hf.1] at r
            obtain ⟨k1, k2, k3, k4⟩ := X.cl c hcm
            have e1 : L.T.cini c.id = d'.id := by show (match L.cl c.id with | some c => c.ini | none => 0) = _; rw [q]; exact eid.symm
            have e2 : L.nm.cnm c.id = c.name := by show (match L.cl c.id with | some c => c.name | none => "") = _; rw [q]
            have r2 := r.2.1.at_
            rw [hf.2] at r2
            rw [e1, e2]
            exact ⟨2 * n, fa', fd', d'.ps, d'.ps.length, ⟨k2, r2, r.2.1.fn, k3⟩, ih d' hd' fa' fd' g, num_ok hL n hd', hr, k4, g.b⟩
      · cases q : L.cl ci with
        | none => rw [show L.nm.isD ci = (match L.cl ci with | some c => (match L.df c.ini with | some d => decide (d.mt = some c.id) && decide (d.name = ("__init__" : Str)) && d.dn | none => false) | none => false) from rfl, q] at hf; cases hf
        | some c =>
          rw [show L.nm.isD ci = (match L.cl ci with | some c => (match L.df c.ini with | some d => decide (d.mt = some c.id) && decide (d.name = ("__init__" : Str)) && d.dn | none => false) | none => false) from rfl, q] at hf
          obtain ⟨hcm, rfl⟩ := cl_of q
          simp only at hf
          cases q2 : L.df c.ini with
          | none => rw [q2] at hf; cases hf
          | some d' =>
            rw [q2] at hf
            simp only [Bool.and_eq_true, decide_eq_true_eq] at hf
            obtain ⟨hd', eid⟩ := df_of hL q2
            obtain ⟨fa', fd', g⟩ := X.df d' hd'
            have r := g.r
            rw [hf.1.1] at r
            obtain ⟨k1, k2, k3, k4⟩ := X.cl c hcm
            have e1 : L.T.cini c.id = d'.id := by show (match L.cl c.id with | some c => c.ini | none => 0) = _; rw [q]; exact eid.symm
            have e2 : L.nm.cnm c.id = c.name := by show (match L.cl c.id with | some c => c.name | none => "") = _; rw [q]
            have r2 := r.2.1.at_
            rw [hf.1.2] at r2
            rw [e1, e2]
            obtain ⟨ds, hds, hb1⟩ := g.b1 hf.2
            exact ⟨2 * n, fa', fd', d'.ps, d'.ps.length, ds, ⟨k2, r2, r.2.1.fn, k3⟩, ih d' hd' fa' fd' g, num_ok hL n hd', hr, k4, hds, hb1⟩
      · cases q : L.cl ci with
        | none => rw [show L.nm.isL ci = (L.cl ci).isSome from rfl, q] at hf; cases hf
        | some c =>
          obtain ⟨hcm, rfl⟩ := cl_of q
          exact (X.cl c hcm).1
      · cases q : L.gl k with
        | none => rw [show L.nm.isG k = (L.gl k).isSome from rfl, q] at hf; cases hf
        | some g =>
          obtain ⟨hgm, e⟩ := gl_of' q
          have e1 : L.nm.gnm k = g.2.1 := by show (match L.gl k with | some g => g.2.1 | none => "") = _; rw [q]
          have e2 : L.T.glob k = g.2.2 := by show (match L.gl k with | some g => g.2.2 | none => .d .non) = _; rw [q]
          rw [e1, e2]
          exact X.gl g hgm
      · cases q : L.kdf k with
        | none => rw [show L.nm.isK k = (L.kdf k).isSome from rfl, q] at hf; cases hf
        | some g =>
          have hgm : g ∈ L.kds := by unfold Inf.kdf at q; exact List.mem_of_find?_eq_some q
          have e1 : L.nm.knm k = g.2.1 := by show (match L.kdf k with | some g => g.2.1 | none => "") = _; rw [q]
          have e2 : L.T.kd k = g.2.2 := by show (match L.kdf k with | some g => g.2.2 | none => []) = _; rw [q]
          rw [e1, e2]
          exact X.kd g hgm
    refine ⟨liftS K ⟨adr, L.nm.lay, w⟩ (wpS L.T (cal L.T n) d.fn.body), (cb (cal_mono n) d.fn.body _ okx ⟨PassesOwn.never, fun _ => rfl⟩ _ _ rfl c4).2 _ rfl, ?_⟩
    have hlen : xs.length = vs.length := Paired.length hp
    have hN : vs.length ≤ d.N.length := by
      have := congrArg List.length (sc_of c1).pre
      rw [List.length_take] at this
      omega
    have all : ∀ x ∈ xs, own x = false := fun x hx => by
      have := List.all_eq_true.mp ho x hx
      simpa using this
    refine ⟨⟨fun b => S b = none ∧ H b ≠ none, H, H⟩, S, startS d.fn.nl xs, hrel, ⟨⟨?_, fun i x e => ?_⟩, fun i x a e o _ => ?_, fun i x a e l e' => ?_⟩, ⟨fun b z => ⟨z.1, rfl, z.2⟩, fun b z => z⟩, ?_⟩
    · rw [startS_len (by rw [c3, hlen]; exact hN), c3]; unfold L2.start; simp; omega
    · rw [c3] at e
      exact (start_at hp i x e).2
    · rw [c3] at e
      rw [all x (start_at hp i x e).1] at o; cases o
    · rw [c3] at e
      obtain ⟨_, v, h1, h2⟩ := start_at hp i x e
      rw [h1] at e'; cases e'
      cases x with
      | bw ds => obtain ⟨p, us, ep, h, nn, _⟩ := h2; cases ep; exact ⟨nn, by rw [h]; simp⟩
      | bd ds => obtain ⟨p, us, ep, h, nn, _⟩ := h2; cases ep; exact ⟨nn, by rw [h]; simp⟩
      | _ => cases l
    · have kp : ∀ {B' : Bs} {S' : Hs} {H' : Hp}, Bs.Le ⟨fun b => S b = none ∧ H b ≠ none, H, H⟩ B' → KeepB B' S' H' → Keep S S' H H' := fun {B' S' H'} l k => by
        have k := KeepB.le l k
        exact ⟨fun b o e n => by
          obtain ⟨h1, h2, h3⟩ := k.st b ⟨n, by rw [e]; simp⟩
          exact ⟨h2.trans e, h1⟩, k.hn⟩
      refine wpS_mono (cal_mono n) (fun σ2 S' q B' σ' H' l hr' rs' kb' => q _ _ hr' (kp l kb') ⟨rfl, fun e => by cases e⟩) (fun x S' q B' v H' l hr' kb' rx ho' => q v H' hr' (kp l kb') ⟨rx, ho'⟩) (fun _ _ z => z.elim) (fun _ _ z => z.elim) wp
noncomputable def spLaw (K : Frag) : Sp := fun vs H Q _ => ∃ (a : Addr) (ns : List Int), vs = [.ref a] ∧ Only H ∧ SqL K H a (ns.map V.int) ∧ ns.length ≤ 63 ∧ (∀ z ∈ ns, Builtin.Int.intBits z ≤ 1048576) ∧ ∀ H', Q (.bl true) H'
noncomputable def Holds2 (L : Inf) (f : Nat) : Prop := ∀ ns : List Int, ns.length ≤ 63 → (∀ z ∈ ns, Builtin.Int.intBits z ≤ 1048576) → cal L.T 100 f [.fz (ns.map D.int)] (fun _ => none) fun r _ => r = .d (.bl true)
theorem law_ok (hL : L.Chk) (X : Facts L K mg adr w) {d : DefI} (hd : d ∈ L.defs) (hps : d.ps = [("script" : Str)]) (h2 : Holds2 L d.id) {fa : Addr} {fd : FuncData} (hf : FunAt L K mg adr d fa fd) : FnOk P w K mg base CX0 200 fa fd ["script"] (spLaw K) := by
  have h := lev (P := P) (w := w) (base := base) hL X 100 d hd fa fd hf
  rw [hps] at h
  refine h.imp fun vs H Q E ⟨a, ns, e, hO, hS, hl, hb, k⟩ => ?_
  subst e
  refine ⟨rfl, fun _ => none, [.fz (ns.map D.int)], (fun b o e => (by cases e)), .cons ⟨a, ns.map V.int, rfl, ?_, RepL.ofInts ns⟩ .nil, cal_mono 100 _ _ _ _ _ (fun x S e v H' hr kk rx => ?_) (h2 ns hl hb)⟩
  · rcases hS with (hS | ⟨o, hS⟩) | hS
    · rcases hO a with z | ⟨o, xs, z⟩
      · rw [z] at hS; cases hS
      · rw [z] at hS; cases hS
    · exact .inl ⟨o, hS, rfl⟩
    · exact .inr (.inr hS)
  · subst e
    cases rx.1
    exact k H'
theorem at_fun {d : DefI} {h : Heap} (hdn : d.dn = false) (KX : K.In h) (G : h.Ns mainGlobals mg) (hm : d.mt = none) {f : Addr} {oc : Value} {od an : Option Addr} {osl : Array (Option Value)} {kV doc pm cdv ct : Value}
    (a : PySem.W.nsIn K mainGlobals d.name = some (some (.ref f))) (l : K.lookup f = some ⟨oc, od, .func (PySem.W.fnOf d.name d.qual (defArgs d.st) (defBody d.st) (defScope d.st) .none kV doc pm an cdv ct), osl⟩)
    (c : PySem.W.codeIn K cdv d.qual = true) (k : PySem.W.keepIn K (.ref f) = true)
    (hb : ∀ (kV doc pm : Value) (an : Option Addr) (cdv ct : Value) (us : List Value), us.length = d.ps.length → bindArgs (PySem.W.fnOf d.name d.qual (defArgs d.st) (defBody d.st) (defScope d.st) .none kV doc pm an cdv ct) ⟨us, []⟩ = pure (d.ps.zip us)) :
    FunAt L K mg adr d f (PySem.W.fnOf d.name d.qual (defArgs d.st) (defBody d.st) (defScope d.st) .none kV doc pm an cdv ct) :=
  ⟨.of (fun_mk l c k), (fun_mk l c k).binds hb, fun e => (by rw [hdn] at e; cases e), by rw [hm]; exact ⟨PySem.W.mg_of KX G a, k⟩⟩
theorem at_meth {d : DefI} {ci : Nat} (hdn : d.dn = false) (hm : d.mt = some ci) (hcl : Cls K (adr ci)) (hno : d.name ∉ L.nm.lay ci) {f : Addr} {oc : Value} {od an : Option Addr} {osl : Array (Option Value)} {kV doc pm cdv ct : Value}
    (a : PySem.W.findIn K (.ref (adr ci)) d.name = some (some (.ref f))) (i : PySem.W.isFn K (.ref f) = true) (l : K.lookup f = some ⟨oc, od, .func (PySem.W.fnOf d.name d.qual (defArgs d.st) (defBody d.st) (defScope d.st) .none kV doc pm an cdv ct), osl⟩)
    (c : PySem.W.codeIn K cdv d.qual = true) (k : PySem.W.keepIn K (.ref f) = true)
    (hb : ∀ (kV doc pm : Value) (an : Option Addr) (cdv ct : Value) (us : List Value), us.length = d.ps.length → bindArgs (PySem.W.fnOf d.name d.qual (defArgs d.st) (defBody d.st) (defScope d.st) .none kV doc pm an cdv ct) ⟨us, []⟩ = pure (d.ps.zip us)) :
    FunAt L K mg adr d f (PySem.W.fnOf d.name d.qual (defArgs d.st) (defBody d.st) (defScope d.st) .none kV doc pm an cdv ct) :=
  ⟨.of (fun_mk l c k), (fun_mk l c k).binds hb, fun e => (by rw [hdn] at e; cases e), by rw [hm]; exact ⟨hcl, ⟨a, i, k⟩, hno⟩⟩
end
theorem walk {l : PySem.W.OpenLaw} {q : Program} {loose : List Str} {XP : (Str → Option Value) → Heap → Prop} {YP : World → Heap → Prop} {d : DefRec} {K : Params → PySem.W.Frag} (hn : l.most = some 63) (hdf : d.params.defaults = [])
    (hY : ∀ (w : World) (h : Heap), YP w h → (K w.params).In h)
    (F : ∀ (w : World) (mg : Str → Option Value) (fa : Addr) (h : Heap), (K w.params).In h → h.Ns mainGlobals mg → mg d.name = some (.ref fa) →
      ∃ fd : FuncData, (∀ (s : Shared) (u : Value), BindsTo s fd ⟨[u], []⟩ [("script", u)]) ∧ ∀ base : Heap, (K w.params).In base → base.Ns mainGlobals mg → FnOk l.prog w (K w.params) mg base CX0 200 fa fd ["script"] (spLaw (K w.params))) :
    PySem.W.WalkO q loose XP YP l.row.toRowW d [] (fun f vs => PySem.call f vs) :=
  L2.walk_ofB (n := 63) (k := 200) (x := "script") (CX := fun _ => CX0) (sp := fun w => spLaw (K w.params)) hn (by decide) hdf ⟨rfl, by decide, by decide⟩ hY F (fun _ H a ns hl hb hO hS => ⟨a, ns, rfl, hO, hS, hl, hb, fun _ => rfl⟩) fun _ _ _ _ _ z => z
theorem chk_of {L : Inf} (h : L.defs.all (chkD L) = true) (hn : (L.defs.map (·.id)).Nodup) : L.Chk := by
  refine ⟨fun d hd => List.all_eq_true.mp h d hd, fun d hd => ?_⟩
  unfold Inf.df
  clear h
  generalize L.defs = ds at hn hd
  induction ds with
  | nil => cases hd
  | cons e es ih =>
    simp only [List.map_cons, List.nodup_cons] at hn
    rcases List.mem_cons.mp hd with rfl | hd
    · simp [List.find?_cons]
    · have ne : e.id ≠ d.id := fun z => hn.1 (z ▸ List.mem_map_of_mem hd)
      rw [List.find?_cons]
      have : (e.id == d.id) = false := beq_eq_false_iff_ne.mpr ne
      rw [this]
      exact ih hn.2 hd
section
variable {K : Frag} {mg : Str → Option Value} {h : Heap}
theorem blt_of (KX : K.In h) (G : h.Ns mainGlobals mg) (b1 : PySem.W.nsIn K mainGlobals "len" = some none) (b2 : PySem.W.nsIn K mainGlobals "int" = some none) (b3 : PySem.W.nsIn K mainGlobals "str" = some none) (b4 : PySem.W.nsIn K mainGlobals "list" = some none)
    (b5 : PySem.W.nsIn K mainGlobals "tuple" = some none) (b6 : PySem.W.nsIn K mainGlobals "sorted" = some none) (b7 : PySem.W.nsIn K mainGlobals "all" = some none) (b8 : PySem.W.nsIn K mainGlobals "any" = some none)
    (b9 : PySem.W.nsIn K mainGlobals "min" = some none) (b10 : PySem.W.nsIn K mainGlobals "max" = some none) (b11 : PySem.W.nsIn K mainGlobals "range" = some none) (b12 : PySem.W.nsIn K mainGlobals "enumerate" = some none)
    (b13 : PySem.W.nsIn K mainGlobals "zip" = some none) (b14 : PySem.W.nsIn K mainGlobals "isinstance" = some none) (b15 : PySem.W.nsIn K mainGlobals "bool" = some none) (b16 : PySem.W.nsIn K mainGlobals "dict" = some none) (b17 : PySem.W.nsIn K mainGlobals "sum" = some none) (b18 : PySem.W.nsIn K mainGlobals "set" = some none) : ∀ x ∈ bltNames, mg x = none := by
  intro x hx
  unfold bltNames at hx
  simp only [List.mem_cons, List.not_mem_nil, or_false] at hx
  rcases hx with rfl | rfl | rfl | rfl | rfl | rfl | rfl | rfl | rfl | rfl | rfl | rfl | rfl | rfl | rfl | rfl | rfl | rfl
  · exact PySem.W.mg_none_of KX G b1
  · exact PySem.W.mg_none_of KX G b2
  · exact PySem.W.mg_none_of KX G b3
  · exact PySem.W.mg_none_of KX G b4
  · exact PySem.W.mg_none_of KX G b5
  · exact PySem.W.mg_none_of KX G b6
  · exact PySem.W.mg_none_of KX G b7
  · exact PySem.W.mg_none_of KX G b8
  · exact PySem.W.mg_none_of KX G b9
  · exact PySem.W.mg_none_of KX G b10
  · exact PySem.W.mg_none_of KX G b11
  · exact PySem.W.mg_none_of KX G b12
  · exact PySem.W.mg_none_of KX G b13
  · exact PySem.W.mg_none_of KX G b14
  · exact PySem.W.mg_none_of KX G b15
  · exact PySem.W.mg_none_of KX G b16
  · exact PySem.W.mg_none_of KX G b17
  · exact PySem.W.mg_none_of KX G b18
theorem gl_int {cx : Cls2} (KX : K.In h) (G : h.Ns mainGlobals mg) {x : Str} {k : Nat} {i : Int} {t : Tok} (a : PySem.W.nsIn K mainGlobals x = some (some (.int i t))) : ∃ v u, mg ((k, x, Vx.d (.int i)) : Nat × Str × Vx).2.1 = some u ∧ RelV v u ∧ own ((k, x, Vx.d (.int i)) : Nat × Str × Vx).2.2 = false ∧ ∀ S H, Rel K cx S H → RepX K H S ((k, x, Vx.d (.int i)) : Nat × Str × Vx).2.2 v :=
  ⟨.int i, _, PySem.W.mg_of KX G a, ⟨t, rfl⟩, rfl, fun _ _ _ => rfl⟩
theorem gl_txt {cx : Cls2} (KX : K.In h) (G : h.Ns mainGlobals mg) {x : Str} {k : Nat} (s : List Nat) {t : Tok} (a : PySem.W.nsIn K mainGlobals x = some (some (.str (sv s) t))) : ∃ v u, mg ((k, x, Vx.d (.str s)) : Nat × Str × Vx).2.1 = some u ∧ RelV v u ∧ own ((k, x, Vx.d (.str s)) : Nat × Str × Vx).2.2 = false ∧ ∀ S H, Rel K cx S H → RepX K H S ((k, x, Vx.d (.str s)) : Nat × Str × Vx).2.2 v :=
  ⟨.str (sv s), _, PySem.W.mg_of KX G a, ⟨t, rfl⟩, rfl, fun _ _ _ => rfl⟩
end
section
variable {L : Inf} {K : Frag} {mg : Str → Option Value} {adr : Nat → Addr} {h : Heap}
end
noncomputable def tupAt (K : Frag) (a : Addr) (ss : List (List Nat)) : Bool := match K.lookup a with
  | some ⟨.type c, _, .seq its _, _⟩ => decide (c = "tuple") && (decide (its.size ≤ sizeLine) && He.relAll (ss.map fun s => V.str (sv s)) its.toList)
  | _ => false
theorem tupAt_ok {K : Frag} {a : Addr} {ss : List (List Nat)} (h : tupAt K a ss = true) (H : Hp) : SqT K H a (ss.map fun s => V.str (sv s)) := by
  unfold tupAt at h
  split at h
  · rename_i c od its n osl q
    simp only [Bool.and_eq_true, decide_eq_true_eq] at h
    exact .inr ⟨_, its, n, q, congrArg Value.type h.1, rfl, h.2.1, He.relAll_ok h.2.2⟩
  · cases h
noncomputable def kdL (K : Frag) : List (List Nat × List (List Nat)) → List DictEntry → Bool
  | [], [] => true
  | (s, ss) :: r, e :: es => (match e.key with | .str x _ => decide (x = sv s) | _ => false) && ((match e.val with | .ref a => tupAt K a ss | _ => false) && kdL K r es)
  | _, _ => false
noncomputable def kdT (kvs : List (List Nat × List (List Nat))) : List (List Nat × D) := kvs.map fun p => (p.1, .tup (p.2.map .str))
theorem repL_strs {K : Frag} {H : Hp} : ∀ ss : List (List Nat), RepL K H (ss.map D.str) (ss.map fun s => V.str (sv s))
  | [] => rfl
  | _ :: ss => ⟨_, _, rfl, rfl, repL_strs ss⟩
theorem kdL_ok {K : Frag} : ∀ {kvs : List (List Nat × List (List Nat))} {es : List DictEntry}, kdL K kvs es = true → es.any (·.refKey) = false ∧ ∀ s : List Nat, ((kdT kvs).lookup s = none → es.find? (·.key.isStr (sv s)) = none) ∧
    ∀ v, (kdT kvs).lookup s = some v → ∃ e vv, es.find? (·.key.isStr (sv s)) = some e ∧ RelV vv e.val ∧ ∀ H, RepV K H v vv
  | [], [], _ => ⟨rfl, fun s => ⟨fun _ => rfl, fun v e => by cases e⟩⟩
  | [], _ :: _, h => by cases h
  | _ :: _, [], h => by cases h
  | (s0, ss) :: r, e :: es, h => by
    unfold kdL at h
    simp only [Bool.and_eq_true] at h
    obtain ⟨h1, h2, h3⟩ := h
    obtain ⟨i1, i2⟩ := kdL_ok h3
    split at h1
    · rename_i x t ek
      have hx : x = sv s0 := of_decide_eq_true h1
      split at h2
      · rename_i a ev
        refine ⟨?_, fun s => ?_⟩
        · rw [List.any_cons, i1]
          show (e.refKey || false) = false
          unfold DictEntry.refKey
          rw [ek]; rfl
        · have hk : e.key.isStr (sv s) = decide (s0 = s) := by
            rw [ek, hx]
            exact sv_inj
          have hl : (kdT ((s0, ss) :: r)).lookup s = (match s == s0 with | true => some (D.tup (ss.map .str)) | false => (kdT r).lookup s) := rfl
          by_cases q : s0 = s
          · subst q
            have hl2 : (kdT ((s0, ss) :: r)).lookup s0 = some (.tup (ss.map .str)) := by rw [hl, beq_self_eq_true]
            rw [hl2]
            refine ⟨fun z => (by cases z), fun v z => ?_⟩
            cases z
            refine ⟨e, .ref a, ?_, ev, fun H => ⟨a, _, rfl, tupAt_ok h2 H, repL_strs ss⟩⟩
            rw [List.find?_cons, hk, decide_eq_true rfl]
          · have hl2 : (kdT ((s0, ss) :: r)).lookup s = (kdT r).lookup s := by
              rw [hl, show (s == s0) = false from by simpa using fun z => q z.symm]
            rw [hl2]
            have hf : (e :: es).find? (·.key.isStr (sv s)) = es.find? (·.key.isStr (sv s)) := by rw [List.find?_cons, hk, decide_eq_false q]
            rw [hf]
            exact i2 s
      · cases h2
    · cases h1
theorem yf_kd2 {K : Frag} {mg : Str → Option Value} {h : Heap} {w : World} (KX : K.In h) (G : h.Ns mainGlobals mg) {x : Str} {d : Addr} {es : Array DictEntry} {n : Nat} (e : PySem.W.nsIn K mainGlobals x = some (some (.ref d))) (at_ : K.lookup d = some ⟨.type "dict", none, .dict es n, #[]⟩) (lit : PySem.W.KeysLit w.params es.toList) (low : (d == sysModules) = false)
    {kvs : List (List Nat × List (List Nat))} (c : kdL K kvs es.toList = true) : KdOk K w mg x (kdT kvs) := by
  obtain ⟨h1, h2⟩ := kdL_ok c
  have hn : ∀ z, PySem.W.nsIn K d z = (match es.toList.find? (·.key.isStr z) with | some e => some (some e.val) | none => if es.toList.any (·.refKey) then none else some none) := fun z => by
    unfold PySem.W.nsIn
    rw [at_]
    rfl
  refine ⟨d, es, n, PySem.W.mg_of KX G e, ⟨at_, lit, low⟩, fun s => ⟨fun z => ?_, fun v z => ?_⟩⟩
  · rw [hn, (h2 s).1 z, h1]; rfl
  · obtain ⟨e, vv, e1, e2, e3⟩ := (h2 s).2 v z
    exact ⟨e.val, vv, by rw [hn, e1], e2, e3⟩
end DL
namespace LW
open PySem L2 PySem.Spec PyProof.Rows DL
noncomputable def f_law_pen : Fn := ⟨1, 1, (.ret (.lst (.consb (.o1 .list (.slc (.v 0) .n (.i 63))) (.consb (.i 0) (.consb (.i 0) .nil)))))⟩
noncomputable def f_law_take : Fn := ⟨2, 8, (.seq (.iff (.o2 .eq (.o2 .idx (.v 0) (.i 2)) (.i 0)) (.seq (.set 2 (.o2 .idx (.v 0) (.i 1))) (.seq (.seti (.v 0) (.i 1) (.o2 .add (.v 2) (.i 1))) (.seq (.set 3 (.i 0)) (.seq (.iff (.o2 .lt (.v 2) (.o1 .len (.o2 .idx (.v 0) (.i 0)))) (.set 3 (.o2 .idx (.o2 .idx (.v 0) (.i 0)) (.v 2))) (.iff (.o2 .gt (.o1 .len (.o2 .idx (.v 0) (.i 0))) (.i 0)) (.set 3 (.o2 .add (.o2 .mod (.o2 .idx (.o2 .idx (.v 0) (.i 0)) (.o2 .mod (.o2 .mul (.v 2) (.i 3)) (.o1 .len (.o2 .idx (.v 0) (.i 0))))) (.i 1000003)) (.o2 .mul (.i 97) (.v 2)))) .skip)) (.seq (.set 4 (.o2 .mod (.o2 .mul (.o2 .add (.o2 .add (.o2 .mod (.v 3) (.i 998244353)) (.o2 .mul (.i 53) (.v 2))) (.i 1)) (.i 48271)) (.i 2147483647))) (.seq (.set 5 (.o2 .mod (.o2 .add (.o2 .add (.o2 .mul (.v 4) (.v 4)) (.o2 .mul (.i 69621) (.v 2))) (.i 5)) (.i 1000000007))) (.seq (.set 6 (.o2 .mod (.o2 .add (.o2 .mul (.v 5) (.v 5)) (.v 4)) (.i 998244353))) (.seq (.seti (.v 0) (.i 2) (.o2 .add (.o2 .fdiv (.o2 .add (.o2 .mul (.v 5) (.i 998244353)) (.v 6)) (.i 16)) (.i 1))) (.iff (.o2 .ge (.v 3) (.o2 .pow (.i 10) (.i 18))) (.seti (.v 0) (.i 2) (.o2 .fdiv (.v 3) (.o2 .pow (.i 10) (.i 18)))) .skip))))))))) .skip) (.seq (.set 7 (.o2 .mod (.o2 .idx (.v 0) (.i 2)) (.v 1))) (.seq (.seti (.v 0) (.i 2) (.o2 .fdiv (.o2 .idx (.v 0) (.i 2)) (.v 1))) (.retv 7))))⟩
noncomputable def f_law_world : Fn := ⟨1, 1, (.ret (.tup (.consb (.o2 .add (.i 1) (.call 5 (.cons (.v 0) (.cons (.i 6) .nil)))) (.consb (.o2 .idx (.lst (.consb (.i 2) (.consb (.i 3) (.consb (.i 5) (.consb (.i 10) (.consb (.o2 .add (.i 2) (.call 5 (.cons (.v 0) (.cons (.i 999) .nil)))) .nil)))))) (.call 5 (.cons (.v 0) (.cons (.i 5) .nil)))) .nil))))⟩
noncomputable def f_law_size : Fn := ⟨1, 3, (.seq (.set 1 (.i 0)) (.seq (.for (.nm 2) (.itv 0) (.seq (.set 1 (.o2 .add (.v 1) (.i 1))) (.iff (.o2 .eq (.o2 .idx (.v 2) (.i 0)) (.s [116, 114, 121])) (.set 1 (.o2 .add (.o2 .add (.v 1) (.call 23 (.cons (.o2 .idx (.v 2) (.i 1)) .nil))) (.call 23 (.cons (.o2 .idx (.v 2) (.i 2)) .nil)))) .skip))) (.retv 1)))⟩
noncomputable def f_law_plain_deed : Fn := ⟨4, 4, (.seq (.iff (.o2 .lt (.v 2) (.i 4)) (.ret (.tup (.consb (.s [108, 111, 111, 107]) (.consb (.v 3) (.consb (.call 5 (.cons (.v 0) (.cons (.o2 .idx (.v 1) (.i 0)) .nil))) .nil))))) .skip) (.seq (.iff (.o2 .lt (.v 2) (.i 7)) (.ret (.tup (.consb (.s [112, 117, 116]) (.consb (.call 5 (.cons (.v 0) (.cons (.o2 .idx (.v 1) (.i 0)) .nil))) (.consb (.v 3) .nil))))) .skip) (.seq (.iff (.o2 .lt (.v 2) (.i 9)) (.ret (.tup (.consb (.s [115, 101, 116]) (.consb (.v 3) (.consb (.call 5 (.cons (.v 0) (.cons (.o2 .idx (.v 1) (.i 1)) .nil))) .nil))))) .skip) (.seq (.iff (.o2 .lt (.v 2) (.i 11)) (.ret (.tup (.consb (.s [112, 108, 117, 115]) (.consb (.v 3) (.consb (.call 5 (.cons (.v 0) (.cons (.i 4) .nil))) .nil))))) .skip) (.ret (.tup (.consb (.s [108, 101, 97, 112]) (.consb (.v 3) (.consb (.o2 .add (.i 1) (.call 5 (.cons (.v 0) (.cons (.o2 .idx (.lst (.consb (.i 2) (.consb (.i 12) .nil))) (.call 5 (.cons (.v 0) (.cons (.i 2) .nil)))) .nil)))) .nil)))))))))⟩
noncomputable def f_law_dealing : Fn := ⟨4, 11, (.seq (.set 4 (.lst .nil)) (.seq (.set 5 (.v 2)) (.seq (.for (.nm 6) (.rng (.call 5 (.cons (.v 0) (.cons (.o2 .add (.o2 .min (.i 12) (.v 2)) (.i 1)) .nil)))) (.seq (.set 7 (.call 5 (.cons (.v 0) (.cons (.i 16) .nil)))) (.seq (.set 8 (.call 5 (.cons (.v 0) (.cons (.i 4) .nil)))) (.seq (.box 8) (.iff (.and (.o2 .gt (.v 5) (.i 0)) (.and (.o2 .lt (.o1 .len (.v 4)) (.i 12)) (.one (.o2 .lt (.v 7) (.i 13))))) (.seq (.om .append 4 (.consb (.call 24 (.cons (.v 0) (.cons (.v 1) (.cons (.v 7) (.cons (.v 8) .nil))))) .nil) none) (.set 5 (.o2 .sub (.v 5) (.i 1)))) (.iff (.and (.o2 .gt (.v 5) (.i 0)) (.and (.o2 .lt (.o1 .len (.v 4)) (.i 12)) (.one (.or (.o2 .eq (.v 7) (.i 13)) (.one (.o2 .eq (.v 3) (.i 0))))))) (.seq (.iff (.and (.o2 .gt (.v 5) (.i 1)) (.and (.o2 .lt (.o1 .len (.v 4)) (.i 11)) (.one (.o2 .gt (.call 5 (.cons (.v 0) (.cons (.i 4) .nil))) (.i 0))))) (.seq (.om .append 4 (.consb (.tup (.consb (.s [108, 101, 97, 112]) (.consb (.v 8) (.consb (.i 1) .nil)))) .nil) none) (.set 5 (.o2 .sub (.v 5) (.i 1)))) .skip) (.seq (.om .append 4 (.consb (.tup (.consb (.s [119, 97, 105, 116]) .nil)) .nil) none) (.set 5 (.o2 .sub (.v 5) (.i 1))))) (.iff (.and (.o2 .gt (.v 5) (.i 0)) (.one (.o2 .lt (.o1 .len (.v 4)) (.i 12)))) (.seq (.set 9 (.call 25 (.cons (.v 0) (.cons (.v 1) (.cons (.call 5 (.cons (.v 0) (.cons (.v 5) .nil))) (.cons (.o2 .sub (.v 3) (.i 1)) .nil)))))) (.seq (.set 5 (.o2 .sub (.o2 .sub (.v 5) (.i 1)) (.call 23 (.cons (.v 9) .nil)))) (.seq (.set 10 (.call 25 (.cons (.v 0) (.cons (.v 1) (.cons (.call 5 (.cons (.v 0) (.cons (.o2 .add (.v 5) (.i 1)) .nil))) (.cons (.o2 .sub (.v 3) (.i 1)) .nil)))))) (.seq (.set 5 (.o2 .sub (.v 5) (.call 23 (.cons (.v 10) .nil)))) (.om .append 4 (.consb (.tup (.consb (.s [116, 114, 121]) (.consb (.v 9) (.consb (.v 10) .nil)))) .nil) none))))) .skip))))))) (.ret (.o1 .tuple (.v 4))))))⟩
noncomputable def f_law_same : Fn := ⟨2, 4, (.seq (.iff (.o2 .is (.v 1) .n) (.ret (.o2 .is (.v 0) .n)) .skip) (.seq (.iff (.o1 (.isi .bool) (.v 1)) (.ret (.and (.o1 (.isi .bool) (.v 0)) (.one (.o2 .eq (.v 0) (.v 1))))) .skip) (.seq (.iff (.o1 (.isi .str) (.v 1)) (.ret (.and (.o1 (.isi .str) (.v 0)) (.one (.o2 .eq (.v 0) (.v 1))))) .skip) (.seq (.iff (.o1 (.isi .int) (.v 1)) (.ret (.and (.o1 (.isi .int) (.v 0)) (.and (.not (.o1 (.isi .bool) (.v 0))) (.one (.o2 .eq (.v 0) (.v 1)))))) .skip) (.seq (.iff (.or (.o2 .ne (.o1 (.isi .tuple) (.v 1)) (.o1 (.isi .tuple) (.v 0))) (.one (.o2 .ne (.o1 (.isi .list) (.v 1)) (.o1 (.isi .list) (.v 0))))) (.ret (.b false)) .skip) (.ret (.and (.o2 .eq (.o1 .len (.v 0)) (.o1 .len (.v 1))) (.one (.o2 .nmem (.b false) (.comp (.tp [2, 3]) (.call 35 (.cons (.v 2) (.cons (.v 3) .nil))) (.zip (.itv 0) (.itv 1)) (.b true)))))))))))⟩
noncomputable def f_bounds_of : Fn := ⟨1, 1, (.ret (.dctp (.pr (.s [104, 97, 110, 100]) (.tup (.consb (.i 0) (.consb (.g 4) .nil))) (.pr (.s [98, 111, 120]) (.tup (.consb (.i 0) (.consb (.o2 .sub (.o2 .idx (.v 0) (.i 0)) (.i 1)) .nil))) (.pr (.s [110, 117, 109, 98, 101, 114]) (.tup (.consb (.i 0) (.consb (.o2 .sub (.o2 .idx (.v 0) (.i 1)) (.i 1)) .nil))) (.pr (.s [108, 101, 97, 112]) (.tup (.consb (.i 1) (.consb (.g 5) .nil))) .nil))))))⟩
noncomputable def f_words_of : Fn := ⟨1, 4, (.seq (.set 1 (.lst (.consb (.s [40]) .nil))) (.seq (.for (.nm 2) (.itv 0) (.seq (.om .append 1 (.consb (.o2 .idx (.v 2) (.i 0)) .nil) none) (.iff (.o2 .eq (.o2 .idx (.v 2) (.i 0)) (.s [116, 114, 121])) (.om .extend 1 (.cons (.o2 .add (.call 371 (.cons (.o2 .idx (.v 2) (.i 1)) .nil)) (.call 371 (.cons (.o2 .idx (.v 2) (.i 2)) .nil))) .nil) none) (.om .extend 1 (.cons (.comp (.nm 3) (.o1 .str (.v 3)) (.ite (.slc (.v 2) (.i 1) .n)) (.b true)) .nil) none)))) (.ret (.o2 .add (.v 1) (.lst (.consb (.s [41]) .nil))))))⟩
noncomputable def f_dealing_text : Fn := ⟨1, 1, (.ret (.bm1 .join (.s [32]) (.call 371 (.cons (.v 0) .nil))))⟩
noncomputable def f_figures_number : Fn := ⟨1, 2, (.seq (.iff (.or (.not (.chain .le .le (.i 1) (.o1 .len (.v 0)) (.g 22))) (.one (.and (.o2 .eq (.o2 .idx (.v 0) (.i 0)) (.s [48])) (.one (.o2 .gt (.o1 .len (.v 0)) (.i 1)))))) (.ret .n) .skip) (.seq (.for (.nm 1) (.ichs (.v 0)) (.iff (.o2 .nmem (.v 1) (.g 21)) (.ret .n) .skip)) (.ret (.o1 .int (.v 0)))))⟩
noncomputable def f_Reader_init : Fn := ⟨3, 3, (.seq (.fset (.v 0) 13 0 (.call 17 (.cons (.v 1) .nil))) (.seq (.fset (.v 0) 13 1 (.v 2)) (.seq (.fset (.v 0) 13 2 (.i 0)) (.fset (.v 0) 13 3 (.i 0)))))⟩
noncomputable def f_Reader_word_2 : Fn := ⟨1, 1, (.seq (.iff (.o2 .eq (.fld (.v 0) 13 2) (.o1 .len (.fld (.v 0) 13 1))) .never .skip) (.ret (.o2 .idx (.fld (.v 0) 13 1) (.fld (.v 0) 13 2))))⟩
noncomputable def f_Reader_number_2 : Fn := ⟨2, 3, (.seq (.set 2 (.call 373 (.cons (.meth 435 (.v 0) .nil) .nil))) (.seq (.iff (.or (.o2 .is (.v 2) .n) (.one (.not (.chain .le .le (.o2 .idx (.o2 .idx (.fld (.v 0) 13 0) (.v 1)) (.i 0)) (.v 2) (.o2 .idx (.o2 .idx (.fld (.v 0) 13 0) (.v 1)) (.i 1)))))) .never .skip) (.seq (.fset (.v 0) 13 2 (.o2 .add (.fld (.v 0) 13 2) (.i 1))) (.retv 2))))⟩
noncomputable def f_Reader_bracket_2 : Fn := ⟨1, 1, (.seq (.iff (.o2 .ne (.meth 435 (.v 0) .nil) (.s [40])) .never .skip) (.fset (.v 0) 13 2 (.o2 .add (.fld (.v 0) 13 2) (.i 1))))⟩
noncomputable def f_Reader_deed_2 : Fn := ⟨2, 5, (.seq (.set 2 (.meth 435 (.v 0) .nil)) (.seq (.box 2) (.seq (.iff (.or (.o2 .eq (.fld (.v 0) 13 3) (.g 7)) (.one (.and (.kmem true 9 (.v 2)) (.one (.or (.o2 .ne (.v 2) (.s [116, 114, 121])) (.one (.o2 .eq (.v 1) (.i 0)))))))) .never .skip) (.seq (.fset (.v 0) 13 2 (.o2 .add (.fld (.v 0) 13 2) (.i 1))) (.seq (.fset (.v 0) 13 3 (.o2 .add (.fld (.v 0) 13 3) (.i 1))) (.seq (.iff (.o2 .eq (.v 2) (.s [116, 114, 121])) (.seq (.set 3 (.meth 439 (.v 0) (.cons (.o2 .sub (.v 1) (.i 1)) .nil))) (.seq (.box 3) (.ret (.tup (.consb (.v 2) (.consb (.v 3) (.consb (.meth 439 (.v 0) (.cons (.o2 .sub (.v 1) (.i 1)) .nil)) .nil))))))) .skip) (.ret (.o2 .add (.tup (.consb (.v 2) .nil)) (.o1 .tuple (.comp (.nm 4) (.meth 436 (.v 0) (.cons (.v 4) .nil)) (.ite (.kidx 9 (.v 2))) (.b true)))))))))))⟩
noncomputable def f_Reader_whole_2 : Fn := ⟨2, 3, (.seq (.expr (.meth 437 (.v 0) .nil)) (.seq (.set 2 (.lst .nil)) (.seq (.whl (.o2 .ne (.meth 435 (.v 0) .nil) (.s [41])) (.seq (.iff (.o2 .eq (.o1 .len (.v 2)) (.g 6)) .never .skip) (.om .append 2 (.consb (.meth 438 (.v 0) (.cons (.v 1) .nil)) .nil) none))) (.seq (.fset (.v 0) 13 2 (.o2 .add (.fld (.v 0) 13 2) (.i 1))) (.ret (.o1 .tuple (.v 2)))))))⟩
noncomputable def f_read_dealing_2 : Fn := ⟨2, 4, (.seq (.set 2 (.make 13 (.cons (.v 0) (.consb (.bm1 .split (.v 1) (.s [32])) .nil)))) (.seq (.set 3 (.meth 439 (.v 2) (.cons (.g 8) .nil))) (.seq (.iff (.o2 .lt (.fld (.v 2) 13 2) (.o1 .len (.fld (.v 2) 13 1))) .never .skip) (.retv 3))))⟩
noncomputable def f_law_words : Fn := ⟨1, 4, (.seq (.set 1 (.lst (.consb (.s [40]) .nil))) (.seq (.for (.nm 2) (.itv 0) (.iff (.o2 .eq (.o2 .idx (.v 2) (.i 0)) (.s [116, 114, 121])) (.set 1 (.o2 .add (.o2 .add (.o2 .add (.v 1) (.lst (.consb (.s [116, 114, 121]) .nil))) (.call 381 (.cons (.o2 .idx (.v 2) (.i 1)) .nil))) (.call 381 (.cons (.o2 .idx (.v 2) (.i 2)) .nil)))) (.set 1 (.o2 .add (.o2 .add (.v 1) (.lst (.consb (.o2 .idx (.v 2) (.i 0)) .nil))) (.comp (.nm 3) (.o1 .str (.v 3)) (.ite (.slc (.v 2) (.i 1) .n)) (.b true)))))) (.ret (.o2 .add (.v 1) (.lst (.consb (.s [41]) .nil))))))⟩
noncomputable def f_law_64 : Fn := ⟨1, 7, (.seq (.set 1 (.call 4 (.cons (.v 0) .nil))) (.seq (.box 1) (.seq (.set 2 (.call 6 (.cons (.v 1) .nil))) (.seq (.for (.nm 3) (.rng (.i 5)) (.seq (.set 4 (.call 25 (.cons (.v 1) (.cons (.v 2) (.cons (.i 40) (.cons (.i 3) .nil)))))) (.seq (.set 5 (.bm1 .join (.s [32]) (.call 381 (.cons (.v 4) .nil)))) (.seq (.iff (.not (.call 35 (.cons (.call 372 (.cons (.v 4) .nil)) (.cons (.v 5) .nil)))) (.ret (.b false)) .skip) (.seq (.set 6 (.call 440 (.cons (.v 2) (.cons (.v 5) .nil)))) (.iff (.or (.not (.call 35 (.cons (.v 6) (.cons (.v 4) .nil)))) (.one (.not (.call 35 (.cons (.call 372 (.cons (.v 6) .nil)) (.cons (.v 5) .nil)))))) (.ret (.b false)) .skip)))))) (.ret (.b true))))))⟩
noncomputable def tkZ : R := (.seq (.set 7 (.o2 .mod (.o2 .idx (.v 0) (.i 2)) (.v 1))) (.seq (.seti (.v 0) (.i 2) (.o2 .fdiv (.o2 .idx (.v 0) (.i 2)) (.v 1))) (.retv 7)))
noncomputable def tkA : R := (.seq (.set 4 (.o2 .mod (.o2 .mul (.o2 .add (.o2 .add (.o2 .mod (.v 3) (.i 998244353)) (.o2 .mul (.i 53) (.v 2))) (.i 1)) (.i 48271)) (.i 2147483647))) (.seq (.set 5 (.o2 .mod (.o2 .add (.o2 .add (.o2 .mul (.v 4) (.v 4)) (.o2 .mul (.i 69621) (.v 2))) (.i 5)) (.i 1000000007))) (.seq (.set 6 (.o2 .mod (.o2 .add (.o2 .mul (.v 5) (.v 5)) (.v 4)) (.i 998244353))) (.seq (.seti (.v 0) (.i 2) (.o2 .add (.o2 .fdiv (.o2 .add (.o2 .mul (.v 5) (.i 998244353)) (.v 6)) (.i 16)) (.i 1))) (.iff (.o2 .ge (.v 3) (.o2 .pow (.i 10) (.i 18))) (.seti (.v 0) (.i 2) (.o2 .fdiv (.v 3) (.o2 .pow (.i 10) (.i 18)))) .skip)))))
theorem su_su (S : Hs) (a : Addr) (o o' : O) : su (su S a o) a o' = su S a o' := by
  funext b
  unfold su
  split <;> rfl
structure PenAt (S : Hs) (p q : Addr) (ns : List Int) (k r : Int) : Prop where
  hp : S p = some (.lst [.ref q, .int k, .int r])
  hq : S q = some (.lst (ns.map .int))
  ne : q ≠ p
  hk : 0 ≤ k
  hr : 0 ≤ r
theorem PenAt.up {S : Hs} {p q : Addr} {ns : List Int} {k r k' r' : Int} (h : PenAt S p q ns k r) (hk : 0 ≤ k') (hr : 0 ≤ r') : PenAt (su S p (.lst [.ref q, .int k', .int r'])) p q ns k' r' := ⟨su_same, by rw [su_ne h.ne]; exact h.hq, h.ne, hk, hr⟩
theorem get_ints {ns : List Int} {i : Int} (h0 : 0 ≤ i) (h1 : i < ns.length) : ∃ c, getI (ns.map D.int) i = some (.int c) := by
  obtain ⟨n, rfl⟩ := Int.eq_ofNat_of_zero_le h0
  have hn : n < ns.length := by omega
  refine ⟨ns[n], ?_⟩
  show (ns.map D.int)[n]? = _
  rw [List.getElem?_map, List.getElem?_eq_getElem hn]
  rfl
theorem take_ok {T : Tbl} (hT : T.fn 5 = some f_law_take) (n : Nat) {S : Hs} {p q : Addr} {ns : List Int} {k r m : Int} {Q : VK2} (h : PenAt S p q ns k r) (hm : 0 < m) (hm2 : m.natAbs.log2 < 9000)
    (w : ∀ (f k' r' : Int), 0 ≤ f → f < m → 0 ≤ k' → 0 ≤ r' → Q (.d (.int f)) (su S p (.lst [.ref q, .int k', .int r']))) : cal T (n + 1) 5 [.d (.ref p), .d (.int m)] S Q := by
  have hp := h.hp
  refine ⟨_, hT, rfl, rfl, ?_⟩
  -- what is left behind the refill
  have tail : ∀ (k' r' : Int) (σ : Sl), 0 ≤ k' → 0 ≤ r' → σ[0]? = some (some (.d (.ref p))) → σ[1]? = some (some (.d (.int m))) → 7 < σ.length → ∀ S', S' = su S p (.lst [.ref q, .int k', .int r']) →
      wpS T (cal T n) (.seq (.set 7 (.o2 .mod (.o2 .idx (.v 0) (.i 2)) (.v 1))) (.seq (.seti (.v 0) (.i 2) (.o2 .fdiv (.o2 .idx (.v 0) (.i 2)) (.v 1))) (.retv 7))) σ S' (fun _ S' => Q (.d .non) S') Q (fun _ _ => False) (fun _ _ => False) := by
    intro k' r' σ hk hr e0 e1 hl S' eS
    have hS : S' p = some (.lst [.ref q, .int k', .int r']) := by rw [eS]; exact su_same
    have e0' : (σ.set 7 (some (.d (.int (r' % m)))))[0]? = some (some (.d (.ref p))) := by rw [List.getElem?_set_ne (by decide)]; exact e0
    have e1' : (σ.set 7 (some (.d (.int (r' % m)))))[1]? = some (some (.d (.int m))) := by rw [List.getElem?_set_ne (by decide)]; exact e1
    have e7' : (σ.set 7 (some (.d (.int (r' % m)))))[7]? = some (some (.d (.int (r' % m)))) := by rw [List.getElem?_set_self hl]
    refine ⟨_, e0, ⟨_, hS, _, rfl, ⟨_, e1, hm, ?_⟩⟩⟩
    refine ⟨_, e0', ⟨_, hS, _, rfl, ⟨_, e1', ⟨hm, hm2⟩, ?_⟩⟩⟩
    refine ⟨_, e0', ⟨_, _, _, rfl, hS, rfl, ⟨(show 2 < 3 by decide), ⟨_, rfl, ?_⟩⟩⟩⟩
    refine ⟨_, e7', ?_⟩
    show Q _ _
    rw [eS, su_su]
    exact w _ _ _ (Int.emod_nonneg _ (Int.ne_of_gt hm)) (Int.emod_lt_of_pos _ hm) hk (Int.ediv_nonneg hr (Int.le_of_lt hm))
  have hk := h.hk
  have hr := h.hr
  refine ⟨_, rfl, ⟨_, hp, _, rfl, ⟨rfl, rfl, ?_⟩⟩⟩
  refine Br.mk (fun hb => ?_) (fun hb => ?_)
  · refine ⟨_, rfl, ⟨_, hp, _, rfl, ?_⟩⟩
    refine ⟨_, rfl, ⟨_, rfl, ⟨_, _, _, rfl, hp, rfl, ⟨(show 1 < 3 by decide), ⟨_, rfl, ?_⟩⟩⟩⟩⟩
    have h1 := h.up (k' := k + 1) (r' := r) (by omega) hr
    have hp1 := h1.hp
    have hq1 := h1.hq
    have mid : ∀ (c : Int), wpS T (cal T n) tkA [some (.d (.ref p)), some (.d (.int m)), some (.d (.int k)), some (.d (.int c)), none, none, none, none] (su S p (.lst [.ref q, .int (k + 1), .int r]))
        (fun σ' S' => wpS T (cal T n) tkZ σ' S' (fun _ S' => Q (.d .non) S') Q (fun _ _ => False) (fun _ _ => False)) Q (fun _ _ => False) (fun _ _ => False) := by
      intro c
      have a1 : 0 ≤ (c % 998244353 + 53 * k + 1) * 48271 % 2147483647 := Int.emod_nonneg _ (by decide)
      have a2 : (c % 998244353 + 53 * k + 1) * 48271 % 2147483647 < 2147483647 := Int.emod_lt_of_pos _ (by decide)
      generalize hone : (c % 998244353 + 53 * k + 1) * 48271 % 2147483647 = one at a1 a2
      refine ⟨_, rfl, ⟨by decide, ⟨_, rfl, ⟨.inl (.inl (by decide)), ⟨.inl (.inr (by decide)), ⟨by decide, ?_⟩⟩⟩⟩⟩⟩
      show wpS T (cal T n) _ [some (.d (.ref p)), some (.d (.int m)), some (.d (.int k)), some (.d (.int c)), some (.d (.int ((c % 998244353 + 53 * k + 1) * 48271 % 2147483647))), none, none, none] _ _ _ _ _
      rw [hone]
      have b1 : 0 ≤ (one * one + 69621 * k + 5) % 1000000007 := Int.emod_nonneg _ (by decide)
      have b2 : (one * one + 69621 * k + 5) % 1000000007 < 1000000007 := Int.emod_lt_of_pos _ (by decide)
      generalize htwo : (one * one + 69621 * k + 5) % 1000000007 = two at b1 b2
      refine ⟨_, rfl, ⟨_, rfl, ⟨.inl (.inl ⟨by omega, by omega⟩), ⟨_, rfl, ⟨.inl (.inl (by decide)), ⟨by decide, ?_⟩⟩⟩⟩⟩⟩
      show wpS T (cal T n) _ [some (.d (.ref p)), some (.d (.int m)), some (.d (.int k)), some (.d (.int c)), some (.d (.int one)), some (.d (.int ((one * one + 69621 * k + 5) % 1000000007))), none, none] _ _ _ _ _
      rw [htwo]
      have c1 : 0 ≤ (two * two + one) % 998244353 := Int.emod_nonneg _ (by decide)
      generalize hthr : (two * two + one) % 998244353 = thr at c1
      refine ⟨_, rfl, ⟨_, rfl, ⟨.inl (.inl ⟨by omega, by omega⟩), ⟨_, rfl, ⟨by decide, ?_⟩⟩⟩⟩⟩
      show wpS T (cal T n) _ [some (.d (.ref p)), some (.d (.int m)), some (.d (.int k)), some (.d (.int c)), some (.d (.int one)), some (.d (.int two)), some (.d (.int ((two * two + one) % 998244353))), none] _ _ _ _ _
      rw [hthr]
      have d1 : 0 ≤ (two * 998244353 + thr) / 16 + 1 := by
        have : 0 ≤ (two * 998244353 + thr) / 16 := Int.ediv_nonneg (by omega) (by decide)
        omega
      refine ⟨_, rfl, ⟨.inl (.inr (by decide)), ⟨_, rfl, ⟨⟨by decide, by decide⟩, ⟨_, rfl, ⟨_, _, _, rfl, hp1, rfl, ⟨(show 2 < 3 by decide), ⟨_, rfl, ?_⟩⟩⟩⟩⟩⟩⟩⟩
      show wpS T (cal T n) _ _ (su (su S p (.lst [.ref q, .int (k + 1), .int r])) p (.lst [.ref q, .int (k + 1), .int ((two * 998244353 + thr) / 16 + 1)])) _ _ _ _
      rw [su_su]
      refine ⟨_, rfl, ⟨⟨by decide, by decide, by decide⟩, Br.mk (fun hb2 => ?_) (fun hb2 => ?_)⟩⟩
      · refine ⟨_, rfl, ⟨⟨by decide, by decide, by decide⟩, ⟨⟨by decide, by decide⟩, ⟨_, rfl, ⟨_, _, _, rfl, su_same, rfl, ⟨(show 2 < 3 by decide), ⟨_, rfl, ?_⟩⟩⟩⟩⟩⟩⟩
        show wpS T (cal T n) _ _ (su (su S p (.lst [.ref q, .int (k + 1), .int ((two * 998244353 + thr) / 16 + 1)])) p (.lst [.ref q, .int (k + 1), .int (c / 10 ^ 18)])) _ _ _ _
        rw [su_su]
        have hb2 : decide ((10 : Int) ^ 18 ≤ c) = true := hb2
        have hc : (10 : Int) ^ 18 ≤ c := of_decide_eq_true hb2
        exact tail (k + 1) (c / 10 ^ 18) _ (by omega) (Int.ediv_nonneg (by omega) (by decide)) rfl rfl (by show 7 < 8; decide) _ rfl
      · exact tail (k + 1) _ _ (by omega) d1 rfl rfl (by show 7 < 8; decide) _ rfl
    -- the cell
    refine ⟨_, rfl, ⟨_, rfl, ⟨_, hp1, _, rfl, ⟨_, hq1, _, rfl, Br.mk (fun hb2 => ?_) (fun hb2 => ?_)⟩⟩⟩⟩
    · have hb2 : decide (k < ((ns.map D.int).length : Int)) = true := hb2
      have hlt : k < (ns.length : Int) := by have := of_decide_eq_true hb2; simpa using this
      obtain ⟨c, hc⟩ := get_ints hk hlt
      exact ⟨_, rfl, ⟨_, hp1, _, rfl, ⟨_, rfl, ⟨_, hq1, _, hc, mid c⟩⟩⟩⟩
    · refine ⟨_, rfl, ⟨_, hp1, _, rfl, ⟨_, hq1, _, rfl, Br.mk (fun hb3 => ?_) (fun hb3 => mid 0)⟩⟩⟩
      have hb3 : decide (0 < ((ns.map D.int).length : Int)) = true := hb3
      have hlt : 0 < (ns.length : Int) := by have := of_decide_eq_true hb3; simpa using this
      have hl2 : (((ns.map D.int).length : Nat) : Int) = (ns.length : Int) := by simp
      obtain ⟨c, hc⟩ := get_ints (ns := ns) (i := k * 3 % (ns.length : Int)) (Int.emod_nonneg _ (by omega)) (Int.emod_lt_of_pos _ hlt)
      rw [← hl2] at hc
      exact ⟨_, rfl, ⟨_, hp1, _, rfl, ⟨_, rfl, ⟨.inl (.inr (by decide)), ⟨_, rfl, ⟨_, hp1, _, rfl, ⟨_, hq1, _, rfl, ⟨of_decide_eq_true hb3, ⟨_, hq1, _, hc, ⟨by decide, ⟨_, rfl, ⟨.inl (.inl (by decide)), mid _⟩⟩⟩⟩⟩⟩⟩⟩⟩⟩⟩⟩
  · have e : su S p (.lst [.ref q, .int k, .int r]) = S := by
      funext b
      unfold su
      split
      · rename_i z; rw [z]; exact hp.symm
      · rfl
    exact tail k r _ hk hr rfl rfl (by show 7 < 8; decide) S e.symm
theorem cut_map {α β : Type} (f : α → β) (xs : List α) (lo hi : Option Int) : cutI (xs.map f) lo hi = (cutI xs lo hi).map f := by
  unfold cutI
  simp [List.map_drop, List.map_take]
theorem pen_ok {T : Tbl} (hT : T.fn 4 = some f_law_pen) (n : Nat) {S : Hs} {ns : List Int} {Q : VK2} (w : ∀ q, S q = none → ∀ ns' : List Int, Q (.vl [.ref q, .int 0, .int 0]) (su S q (.lst (ns'.map .int)))) : cal T (n + 1) 4 [.fz (ns.map D.int)] S Q := by
  refine ⟨_, hT, rfl, rfl, ?_⟩
  refine ⟨_, rfl, ⟨_, rfl, ⟨_, rfl, ⟨_, rfl, fun q hq => ⟨_, rfl, (show 3 ≤ sizeLine by decide), ?_⟩⟩⟩⟩⟩
  rw [cut_map]
  exact w q hq _
theorem forL_inv {tg : Tg} {ok : SK2} {body : SK2 → SK2} {nx : SK2} (I : SK2) (hok : ∀ σ S, I σ S → ok σ S) (hend : ∀ σ S, I σ S → nx σ S) : ∀ (xs : List D), (∀ x ∈ xs, ∀ (k : SK2) σ S, (∀ σ S, I σ S → k σ S) → I σ S → bindT tg x σ fun σ' => body k σ' S) → ∀ σ S, I σ S → forL tg ok body nx xs σ S
  | [], _, σ, S, i => ⟨hok _ _ i, hend _ _ i⟩
  | x :: xs, h, σ, S, i => ⟨hok _ _ i, h x List.mem_cons_self _ σ S (forL_inv I hok hend xs fun y hy => h y (List.mem_cons_of_mem _ hy)) i⟩
noncomputable def okD (S : Hs) (x : D) : Prop := (∀ a, x = .ref a → ∃ ds, S a = some (.lst ds)) ∧ ∀ ds, x ≠ .xt ds
noncomputable def good (S : Hs) (x : D) : Prop := okD S x ∧ ∀ ds, x = .tup ds → ∀ d ∈ ds, okD S d
theorem world_ok {T : Tbl} (h5 : T.fn 5 = some f_law_take) (hT : T.fn 6 = some f_law_world) (n : Nat) {S : Hs} {p q : Addr} {ns : List Int} {k r : Int} {Q : VK2} (h : PenAt S p q ns k r)
    (w : ∀ (a b k' r' : Int), 1 ≤ a → a ≤ 6 → 2 ≤ b → b ≤ 1000 → 0 ≤ k' → 0 ≤ r' → Q (.d (.tup [.int a, .int b])) (su S p (.lst [.ref q, .int k', .int r']))) : cal T (n + 2) 6 [.d (.ref p)] S Q := by
  refine ⟨_, hT, rfl, rfl, ?_⟩
  have ht := fun (S : Hs) (k r m : Int) Q (h : PenAt S p q ns k r) => take_ok h5 n (m := m) (Q := Q) h
  generalize cal T (n + 1) = c at ht ⊢
  refine ⟨_, rfl, ht _ _ _ _ _ h (by decide) (by decide) fun a k1 r1 a0 a1 k10 r10 => ?_⟩
  refine ⟨_, rfl, ht _ _ _ _ _ (h.up k10 r10) (by decide) (by decide) fun b k2 r2 b0 b1 k20 r20 => ?_⟩
  rw [su_su]
  refine ⟨_, rfl, (show 5 ≤ sizeLine by decide), ?_⟩
  refine ⟨_, rfl, ht _ _ _ _ _ (h.up k20 r20) (by decide) (by decide) fun i k3 r3 i0 i1 k30 r30 => ?_⟩
  rw [su_su]
  have hi : i = 0 ∨ i = 1 ∨ i = 2 ∨ i = 3 ∨ i = 4 := by omega
  rcases hi with rfl | rfl | rfl | rfl | rfl
  · exact ⟨_, rfl, _, rfl, (show 2 ≤ sizeLine by decide), w _ _ _ _ (by omega) (by omega) (by omega) (by omega) k30 r30⟩
  · exact ⟨_, rfl, _, rfl, (show 2 ≤ sizeLine by decide), w _ _ _ _ (by omega) (by omega) (by omega) (by omega) k30 r30⟩
  · exact ⟨_, rfl, _, rfl, (show 2 ≤ sizeLine by decide), w _ _ _ _ (by omega) (by omega) (by omega) (by omega) k30 r30⟩
  · exact ⟨_, rfl, _, rfl, (show 2 ≤ sizeLine by decide), w _ _ _ _ (by omega) (by omega) (by omega) (by omega) k30 r30⟩
  · exact ⟨_, rfl, _, rfl, (show 2 ≤ sizeLine by decide), w _ _ _ _ (by omega) (by omega) (by omega) (by omega) k30 r30⟩
local macro_rules | `(tactic| walk_at "dl_go") => `(tactic| repeat (first | refine ⟨_, rfl, ?_⟩ | refine ⟨Nat.le_of_ble_eq_true rfl, ?_⟩ | refine ⟨by assumption, ?_⟩))
noncomputable def isL (S : Hs) (a : Addr) : Prop := ∃ ds, S a = some (.lst ds)
theorem okD_ref {S : Hs} {a : Addr} (h : isL S a) : okD S (.ref a) := ⟨fun b e => by cases e; exact h, fun ds e => by cases e⟩
theorem okD_no {S : Hs} {x : D} (h : ∀ a, x ≠ .ref a) (h2 : ∀ ds, x ≠ .xt ds := by intro ds e; cases e) : okD S x := ⟨fun a e => (h a e).elim, h2⟩
theorem good_tup {S : Hs} {ds : List D} (h : ∀ d ∈ ds, okD S d) : good S (.tup ds) := ⟨⟨fun a e => (by cases e), fun ds e => (by cases e)⟩, fun es e => by cases e; exact h⟩
theorem good_no {S : Hs} {x : D} (h : okD S x) (h2 : ∀ ds, x ≠ .tup ds) : good S x := ⟨h, fun ds e => (h2 ds e).elim⟩
local macro_rules | `(tactic| walk_at "dl_ok") => `(tactic| first | exact okD_ref (by assumption) | exact okD_no (fun a e => by cases e))
local macro_rules | `(tactic| walk_at "dl_good") => `(tactic| first
  | exact good_tup (List.forall_mem_nil _)
  | exact good_tup (List.forall_mem_cons.mpr ⟨by walk_at "dl_ok", List.forall_mem_nil _⟩)
  | exact good_tup (List.forall_mem_cons.mpr ⟨by walk_at "dl_ok", List.forall_mem_cons.mpr ⟨by walk_at "dl_ok", List.forall_mem_nil _⟩⟩)
  | exact good_tup (List.forall_mem_cons.mpr ⟨by walk_at "dl_ok", List.forall_mem_cons.mpr ⟨by walk_at "dl_ok", List.forall_mem_cons.mpr ⟨by walk_at "dl_ok", List.forall_mem_nil _⟩⟩⟩)
  | exact good_no (by walk_at "dl_ok") (fun ds e => by cases e))
local macro_rules | `(tactic| walk_at "dl_good") => `(tactic| first
  | exact good_tup (List.forall_mem_nil _)
  | exact good_tup (List.forall_mem_cons.mpr ⟨by walk_at "dl_ok", List.forall_mem_nil _⟩)
  | exact good_tup (List.forall_mem_cons.mpr ⟨by walk_at "dl_ok", List.forall_mem_cons.mpr ⟨by walk_at "dl_ok", List.forall_mem_nil _⟩⟩)
  | exact good_no (by walk_at "dl_ok") (fun ds e => by cases e))
theorem compL_map {tg : Tg} {ok : Sl → Hs → Prop} {elt : Sl → Hs → (D → Hs → Prop) → Prop} {tst : Sl → Hs → (Bool → Hs → Prop) → Prop} {σ : Sl} {K : List D → Hs → Prop} (f : D → D) {S : Hs} (hok : ok σ S) :
    ∀ (xs acc : List D), (∀ x ∈ xs, ∀ (P1 : D → Hs → Prop) (P2 : Hs → Prop), P1 (f x) S → bindT tg x σ fun σ' => tst σ' S fun b S1 => Br b (elt σ' S1 P1) (P2 S1)) → acc.length + xs.length ≤ sizeLine → K (acc ++ xs.map f) S → compL tg ok elt tst σ xs acc S K
  | [], acc, _, _, k => ⟨hok, by simpa using k⟩
  | x :: xs, acc, h, hl, k => ⟨hok, h x List.mem_cons_self _ _ ⟨by simp at hl; omega, compL_map f hok xs (acc ++ [f x]) (fun y hy => h y (List.mem_cons_of_mem _ hy)) (by simp at hl ⊢; omega) (by simpa using k)⟩⟩
local macro_rules | `(tactic| walk_at "dl_go") => `(tactic| repeat (first | refine ⟨_, rfl, ?_⟩ | refine ⟨_, by assumption, ?_⟩ | refine ⟨Nat.le_of_ble_eq_true rfl, ?_⟩ | refine ⟨by assumption, ?_⟩))
inductive Deed where
  | look (h b : Int) | put (b h : Int) | set (h n : Int) | plus (g h : Int) | leap (h n : Int) | wait | try_ (one other : List Deed)
noncomputable abbrev sLook : D := .str [108, 111, 111, 107]
noncomputable abbrev sPut : D := .str [112, 117, 116]
noncomputable abbrev sSet : D := .str [115, 101, 116]
noncomputable abbrev sPlus : D := .str [112, 108, 117, 115]
noncomputable abbrev sLeap : D := .str [108, 101, 97, 112]
noncomputable abbrev sWait : D := .str [119, 97, 105, 116]
noncomputable abbrev sTry : D := .str [116, 114, 121]
mutual
noncomputable def encD : Deed → D
  | .look h b => .tup [sLook, .int h, .int b]
  | .put b h => .tup [sPut, .int b, .int h]
  | .set h n => .tup [sSet, .int h, .int n]
  | .plus g h => .tup [sPlus, .int g, .int h]
  | .leap h n => .tup [sLeap, .int h, .int n]
  | .wait => .tup [sWait]
  | .try_ a b => .tup [sTry, .tup (encs a), .tup (encs b)]
noncomputable def encs : List Deed → List D
  | [] => []
  | d :: ds => encD d :: encs ds
end
mutual
noncomputable def sizeD : Deed → Nat
  | .try_ a b => 1 + sizes a + sizes b
  | _ => 1
noncomputable def sizes : List Deed → Nat
  | [] => 0
  | d :: ds => sizeD d + sizes ds
end
mutual
noncomputable def depD : Deed → Nat
  | .try_ a b => 1 + max (deps a) (deps b)
  | _ => 0
noncomputable def deps : List Deed → Nat
  | [] => 0
  | d :: ds => max (depD d) (deps ds)
end
mutual
noncomputable def okDeed (n w : Int) : Deed → Prop
  | .look h b => 0 ≤ h ∧ h < 4 ∧ 0 ≤ b ∧ b < n
  | .put b h => 0 ≤ h ∧ h < 4 ∧ 0 ≤ b ∧ b < n
  | .set h x => 0 ≤ h ∧ h < 4 ∧ 0 ≤ x ∧ x < w
  | .plus g h => 0 ≤ g ∧ g < 4 ∧ 0 ≤ h ∧ h < 4
  | .leap h x => 0 ≤ h ∧ h < 4 ∧ 1 ≤ x ∧ x ≤ 12
  | .wait => True
  | .try_ a b => (okDeeds n w a ∧ a.length ≤ 12) ∧ okDeeds n w b ∧ b.length ≤ 12
noncomputable def okDeeds (n w : Int) : List Deed → Prop
  | [] => True
  | d :: ds => okDeed n w d ∧ okDeeds n w ds
end
theorem encs_append : ∀ (a b : List Deed), encs (a ++ b) = encs a ++ encs b
  | [], _ => rfl
  | d :: a, b => by simp [encs, encs_append a b]
theorem encs_length : ∀ (a : List Deed), (encs a).length = a.length
  | [] => rfl
  | d :: a => by simp [encs, encs_length a]
theorem sizes_append : ∀ (a b : List Deed), sizes (a ++ b) = sizes a + sizes b
  | [], _ => by simp [sizes]
  | d :: a, b => by simp [sizes, sizes_append a b]; omega
theorem okDeeds_append {n w : Int} : ∀ {a b : List Deed}, okDeeds n w a → okDeeds n w b → okDeeds n w (a ++ b)
  | [], _, _, h => h
  | d :: a, b, h, h' => ⟨h.1, okDeeds_append h.2 h'⟩
theorem deps_append : ∀ (a b : List Deed), deps (a ++ b) = max (deps a) (deps b)
  | [], _ => by simp [deps]
  | d :: a, b => by simp [deps, deps_append a b, Nat.max_assoc]
theorem deps_mem {d : Deed} : ∀ {ds : List Deed}, d ∈ ds → depD d ≤ deps ds
  | [], h => by cases h
  | e :: ds, h => by
    rcases List.mem_cons.mp h with rfl | h
    · exact Nat.le_max_left _ _
    · exact Nat.le_trans (deps_mem h) (Nat.le_max_right _ _)
theorem is_try {T : Tbl} {c : Nat → List Vx → Hs → VK2 → Prop} {σ : Sl} {S : Hs} {i : Nat} {d : Deed} {P : LK2} (e : σ[i]? = some (some (.d (encD d)))) (w : P [.d (.bl (match d with | .try_ _ _ => true | _ => false))] S) : wpE T c (.o2 .eq (.o2 .idx (.v i) (.i 0)) (.s [116, 114, 121])) σ S P := by
  cases d <;> exact ⟨_, e, ⟨_, rfl, rfl, rfl, w⟩⟩
theorem size_ok {T : Tbl} (hT : T.fn 23 = some f_law_size) : ∀ (m : Nat) (ds : List Deed) (S : Hs) (Q : VK2), deps ds < m → Q (.d (.int (sizes ds))) S → cal T m 23 [.d (.tup (encs ds))] S Q
  | 0, ds, S, Q, h, _ => by omega
  | m + 1, ds, S, Q, h, w => by
    refine ⟨_, hT, rfl, rfl, ?_⟩
    have ih := size_ok hT m
    generalize cal T m = c at ih ⊢
    have key : ∀ (es ds0 : List Deed) (k : Nat) (σ : Sl), ds = ds0 ++ es → k = sizes ds0 → (∃ s2, σ = [some (.d (.tup (encs ds))), some (.d (.int k)), s2]) → forL (.nm 2) (fun _ _ => True) (fun k σ' S' => wpS T c (.seq (.set 1 (.o2 .add (.v 1) (.i 1))) (.iff (.o2 .eq (.o2 .idx (.v 2) (.i 0)) (.s [116, 114, 121])) (.set 1 (.o2 .add (.o2 .add (.v 1) (.call 23 (.cons (.o2 .idx (.v 2) (.i 1)) .nil))) (.call 23 (.cons (.o2 .idx (.v 2) (.i 2)) .nil)))) .skip)) σ' S' k Q (fun σ' S' => wpS T c (.retv 1) σ' S' (fun _ S' => Q (.d .non) S') Q (fun _ _ => False) (fun _ _ => False)) k) (fun σ' S' => wpS T c (.retv 1) σ' S' (fun _ S' => Q (.d .non) S') Q (fun _ _ => False) (fun _ _ => False)) (encs es) σ S := by
      intro es
      induction es with
      | nil =>
        rintro ds0 k σ e rfl ⟨s2, rfl⟩
        rw [List.append_nil] at e
        subst e
        exact ⟨trivial, _, rfl, w⟩
      | cons d es ihs =>
        rintro ds0 k σ e rfl ⟨s2, rfl⟩
        have hd : d ∈ ds := by rw [e]; simp
        refine ⟨trivial, ⟨_, rfl, ?_⟩⟩
        refine is_try rfl ?_
        have next : ∀ k', k' = sizes (ds0 ++ [d]) → _ := fun k' hk => ihs (ds0 ++ [d]) k' [some (.d (.tup (encs ds))), some (.d (.int k')), some (.d (encD d))] (by rw [e]; simp) hk ⟨_, rfl⟩
        cases d with
        | try_ a b =>
          have hdep := deps_mem hd
          have hab : 1 + max (deps a) (deps b) ≤ deps ds := hdep
          refine Br.mk (fun _ => ?_) (fun z => by cases z)
          refine ⟨_, rfl, ⟨_, rfl, ⟨_, rfl, ih a S _ (by omega) ?_⟩⟩⟩
          refine ⟨_, rfl, ⟨_, rfl, ih b S _ (by omega) ?_⟩⟩
          have hk : sizes ds0 + 1 + sizes a + sizes b = sizes (ds0 ++ [.try_ a b]) := by rw [sizes_append]; simp [sizes, sizeD]; omega
          have ee : ((sizes ds0 : Int) + 1 + (sizes a : Int) + (sizes b : Int)) = ((sizes ds0 + 1 + sizes a + sizes b : Nat) : Int) := by omega
          have := next _ hk
          show forL _ _ _ _ _ [some (.d (.tup (encs ds))), some (.d (.int ((sizes ds0 : Int) + 1 + (sizes a : Int) + (sizes b : Int)))), some (.d (encD (.try_ a b)))] S
          rw [ee]
          exact this
        | _ =>
          refine Br.mk (fun z => by cases z) (fun _ => ?_)
          exact next (sizes ds0 + 1) (by rw [sizes_append]; simp [sizes, sizeD])
    exact ⟨_, rfl, key ds [] 0 _ rfl rfl ⟨_, rfl⟩⟩
theorem plain_deed_ok {T : Tbl} (h5 : T.fn 5 = some f_law_take) (hT : T.fn 24 = some f_law_plain_deed) (n : Nat) {S : Hs} {p q : Addr} {ns : List Int} {k r a b way hand : Int} {Q : VK2} (h : PenAt S p q ns k r) (a1 : 1 ≤ a) (a6 : a ≤ 6) (b2 : 2 ≤ b) (b3 : b ≤ 1000) (h0 : 0 ≤ hand) (h4 : hand < 4)
    (w : ∀ (d : Deed) (k' r' : Int), okDeed a b d → sizeD d = 1 → depD d = 0 → 0 ≤ k' → 0 ≤ r' → Q (.d (encD d)) (su S p (.lst [.ref q, .int k', .int r']))) : cal T (n + 2) 24 [.d (.ref p), .d (.tup [.int a, .int b]), .d (.int way), .d (.int hand)] S Q := by
  refine ⟨_, hT, rfl, rfl, ?_⟩
  have ht := fun (S : Hs) (k r m : Int) Q (h : PenAt S p q ns k r) => take_ok h5 n (m := m) (Q := Q) h
  generalize cal T (n + 1) = c at ht ⊢
  have lb : ∀ m : Int, 0 < m → m ≤ 1000 → m.natAbs.log2 < 9000 := fun m _ _ => Nat.lt_of_le_of_lt (Nat.log2_le_self _) (by omega)
  refine ⟨_, rfl, Br.mk (fun _ => ?_) (fun _ => ?_)⟩
  · exact ⟨_, rfl, ⟨_, rfl, ⟨_, rfl, ⟨_, rfl, ht _ _ _ _ _ h (by omega) (lb _ (by omega) (by omega)) fun f k1 r1 f0 f1 k10 r10 => ⟨_, rfl, (show 3 ≤ sizeLine by decide), w (.look hand f) _ _ ⟨h0, h4, f0, f1⟩ rfl rfl k10 r10⟩⟩⟩⟩⟩
  refine ⟨_, rfl, Br.mk (fun _ => ?_) (fun _ => ?_)⟩
  · exact ⟨_, rfl, ⟨_, rfl, ⟨_, rfl, ht _ _ _ _ _ h (by omega) (lb _ (by omega) (by omega)) fun f k1 r1 f0 f1 k10 r10 => ⟨_, rfl, ⟨_, rfl, (show 3 ≤ sizeLine by decide), w (.put f hand) _ _ ⟨h0, h4, f0, f1⟩ rfl rfl k10 r10⟩⟩⟩⟩⟩
  refine ⟨_, rfl, Br.mk (fun _ => ?_) (fun _ => ?_)⟩
  · exact ⟨_, rfl, ⟨_, rfl, ⟨_, rfl, ⟨_, rfl, ht _ _ _ _ _ h (by omega) (lb _ (by omega) (by omega)) fun f k1 r1 f0 f1 k10 r10 => ⟨_, rfl, (show 3 ≤ sizeLine by decide), w (.set hand f) _ _ ⟨h0, h4, f0, f1⟩ rfl rfl k10 r10⟩⟩⟩⟩⟩
  refine ⟨_, rfl, Br.mk (fun _ => ?_) (fun _ => ?_)⟩
  · exact ⟨_, rfl, ⟨_, rfl, ht _ _ _ _ _ h (by omega) (lb _ (by omega) (by omega)) fun f k1 r1 f0 f1 k10 r10 => ⟨_, rfl, (show 3 ≤ sizeLine by decide), w (.plus hand f) _ _ ⟨h0, h4, f0, f1⟩ rfl rfl k10 r10⟩⟩⟩
  refine ⟨_, rfl, ⟨_, rfl, ⟨_, rfl, (show 2 ≤ sizeLine by decide), ⟨_, rfl, ht _ _ _ _ _ h (by omega) (lb _ (by omega) (by omega)) fun i k1 r1 i0 i1 k10 r10 => ?_⟩⟩⟩⟩
  have hi : i = 0 ∨ i = 1 := by omega
  have h1 := h.up k10 r10
  rcases hi with rfl | rfl
  · refine ⟨_, rfl, ht _ _ _ _ _ h1 (by omega) (lb _ (by omega) (by omega)) fun f k2 r2 f0 f1 k20 r20 => ⟨_, rfl, (show 3 ≤ sizeLine by decide), ?_⟩⟩
    rw [su_su]
    exact w (.leap hand (1 + f)) _ _ ⟨h0, h4, by omega, by omega⟩ rfl rfl k20 r20
  · refine ⟨_, rfl, ht _ _ _ _ _ h1 (by omega) (lb _ (by omega) (by omega)) fun f k2 r2 f0 f1 k20 r20 => ⟨_, rfl, (show 3 ≤ sizeLine by decide), ?_⟩⟩
    rw [su_su]
    exact w (.leap hand (1 + f)) _ _ ⟨h0, h4, by omega, by omega⟩ rfl rfl k20 r20
theorem lbnd {m : Int} (h0 : 0 < m) (h1 : m ≤ 1000) : m.natAbs.log2 < 9000 := Nat.lt_of_le_of_lt (Nat.log2_le_self _) (by omega)
theorem enc1 (ds : List Deed) (d : Deed) : encs ds ++ [encD d] = encs (ds ++ [d]) := by simp [encs_append, encs]
theorem sz_lt12 {n : Nat} (h : n < 12) : n < sizeLine := Nat.lt_of_lt_of_le h (by decide)
theorem dealing_ok {T : Tbl} (h5 : T.fn 5 = some f_law_take) (h23 : T.fn 23 = some f_law_size) (h24 : T.fn 24 = some f_law_plain_deed) (hT : T.fn 25 = some f_law_dealing) {p q : Addr} {ns : List Int} {a b : Int} (a1 : 1 ≤ a) (a6 : a ≤ 6) (b2 : 2 ≤ b) (b3 : b ≤ 1000) :
    ∀ (t n : Nat) (S : Hs) (k r room : Int) (Q : VK2), PenAt S p q ns k r → 0 ≤ room → room ≤ 1000 → (∀ (ds : List Deed) (k' r' : Int), (sizes ds : Int) ≤ room → ds.length ≤ 12 → okDeeds a b ds → deps ds ≤ t → 0 ≤ k' → 0 ≤ r' → Q (.d (.tup (encs ds))) (su S p (.lst [.ref q, .int k', .int r']))) →
      cal T (n + 4 + t) 25 [.d (.ref p), .d (.tup [.int a, .int b]), .d (.int room), .d (.int (t : Int))] S Q := by
  intro t
  induction t using Nat.strongRecOn with
  | _ t ih =>
  intro n S k r room Q h r0 r1000 w
  have e4 : n + 4 + t = (n + 3 + t) + 1 := by omega
  rw [e4]
  refine ⟨_, hT, rfl, rfl, ?_⟩
  have ht : ∀ (S : Hs) (k r m : Int) Q, PenAt S p q ns k r → _ := fun S k r m Q h => by
    have := take_ok h5 (n + 2 + t) (m := m) (Q := Q) h
    rw [show n + 2 + t + 1 = n + 3 + t by omega] at this
    exact this
  have hp : ∀ (S : Hs) (k r way hand : Int) Q, PenAt S p q ns k r → _ := fun S k r way hand Q h => by
    have := plain_deed_ok h5 h24 (n + 1 + t) (way := way) (hand := hand) (Q := Q) h a1 a6 b2 b3
    rw [show n + 1 + t + 2 = n + 3 + t by omega] at this
    exact this
  have hz := fun ds S Q => size_ok h23 (n + 3 + t) ds S Q
  have hd : ∀ (S : Hs) (k r room : Int) Q, 1 ≤ t → _ := fun S k r room Q ht => by
    have := ih (t - 1) (by omega) n S k r room Q
    rw [show n + 4 + (t - 1) = n + 3 + t by omega] at this
    exact this
  have lvl : t < n + 3 + t := by omega
  generalize cal T (n + 3 + t) = c at ht hp hz hd ⊢
  have hm : 0 < (if room < 12 then room else 12) + 1 ∧ (if room < 12 then room else 12) + 1 ≤ 1000 := by split <;> omega
  refine ⟨_, rfl, (show 0 ≤ sizeLine by decide), ⟨_, rfl, ⟨_, rfl, ⟨_, rfl, ht _ _ _ _ _ h hm.1 (lbnd hm.1 hm.2) fun f k1 r1 f0 f1 k10 r10 => ?_⟩⟩⟩⟩
  refine ⟨_, rfl, by have := hm.2; omega, by omega, ?_⟩
  refine forL_inv (fun σ S' => ∃ ds l s6 s7 s8 s9 s10 k r, σ = [some (.d (.ref p)), some (.d (.tup [.int a, .int b])), some (.d (.int room)), some (.d (.int (t : Int))), some (.vl (encs ds)), some (.d (.int l)), s6, s7, s8, s9, s10] ∧
    0 ≤ l ∧ (sizes ds : Int) + l = room ∧ ds.length ≤ 12 ∧ okDeeds a b ds ∧ deps ds ≤ t ∧ 0 ≤ k ∧ 0 ≤ r ∧ S' = su S p (.lst [.ref q, .int k, .int r])) (fun _ _ _ => trivial) ?_ _ ?_ _ _
    ⟨[], room, _, _, _, _, _, k1, r1, rfl, r0, by simp [sizes], by simp, trivial, by simp [deps], k10, r10, rfl⟩
  · rintro σ S' ⟨ds, l, s6, s7, s8, s9, s10, k, r, rfl, l0, hsz, hlen, hok, hdp, k0, r0', rfl⟩
    exact ⟨_, rfl, ⟨_, rfl, w ds k r (by omega) hlen hok hdp k0 r0'⟩⟩
  · rintro x _ kk σ S' hk ⟨ds, l, s6, s7, s8, s9, s10, k, r, rfl, l0, hsz, hlen, hok, hdp, k0, r0', rfl⟩
    have h1 := h.up k0 r0'
    refine ⟨_, rfl, ht _ _ _ _ _ h1 (by decide) (by decide) fun way k2 r2 w0 w1 k20 r20 => ?_⟩
    rw [su_su]
    have h2 := h.up k20 r20
    refine ⟨_, rfl, ht _ _ _ _ _ h2 (by decide) (by decide) fun hand k3 r3 hd0 hd4 k30 r30 => ?_⟩
    rw [su_su]
    have h3 := h.up k30 r30
    refine ⟨_, rfl, ?_⟩
    have hel : (((encs ds).length : Nat) : Int) = (ds.length : Int) := by rw [encs_length]
    -- one deed more
    have app : ∀ (d : Deed) (l' : Int) (S' : Hs) (s7 s8 s9 s10 : Option Vx) (k' r' : Int), 0 ≤ l' → (sizeD d : Int) + l' = l → ds.length < 12 → okDeed a b d → depD d ≤ t → 0 ≤ k' → 0 ≤ r' → S' = su S p (.lst [.ref q, .int k', .int r']) →
        kk [some (.d (.ref p)), some (.d (.tup [.int a, .int b])), some (.d (.int room)), some (.d (.int (t : Int))), some (.vl (encs ds ++ [encD d])), some (.d (.int l')), some (.d x), s7, s8, s9, s10] S' := fun d l' S' s7 s8 s9 s10 k' r' p1 p2 p3 p4 p5 p6 p7 p8 =>
      hk _ _ ⟨ds ++ [d], l', _, _, _, _, _, k', r', by rw [enc1], p1, by rw [sizes_append]; simp [sizes]; omega, by simp; omega, okDeeds_append hok ⟨p4, trivial⟩, by rw [deps_append]; simp [deps]; omega, p6, p7, p8⟩
    have stay : kk [some (.d (.ref p)), some (.d (.tup [.int a, .int b])), some (.d (.int room)), some (.d (.int (t : Int))), some (.vl (encs ds)), some (.d (.int l)), some (.d x), some (.d (.int way)), some (.d (.int hand)), s9, s10] (su S p (.lst [.ref q, .int k3, .int r3])) :=
      hk _ _ ⟨ds, l, _, _, _, _, _, k3, r3, rfl, l0, hsz, hlen, hok, hdp, k30, r30, rfl⟩
    -- the last branch
    have third : (0 < l → ds.length < 12 → t ≠ 0 → 1 ≤ t) := fun _ _ z => by omega
    have wait2 : 0 < l → ds.length < 12 → ∀ (S3 : Hs) (k3 r3 : Int), 0 ≤ k3 → 0 ≤ r3 → S3 = su S p (.lst [.ref q, .int k3, .int r3]) → ∀ (es : List Deed) (l' : Int), 0 < l' → es.length < 12 → (sizes es : Int) + l' = room → okDeeds a b es → deps es ≤ t →
        kk [some (.d (.ref p)), some (.d (.tup [.int a, .int b])), some (.d (.int room)), some (.d (.int (t : Int))), some (.vl (encs es ++ [encD .wait])), some (.d (.int (l' - 1))), some (.d x), some (.d (.int way)), some (.d (.int hand)), s9, s10] S3 := fun _ _ S3 k3 r3 p6 p7 p8 es l' q1 q2 q3 q4 q5 =>
      hk _ _ ⟨es ++ [.wait], l' - 1, _, _, _, _, _, k3, r3, by rw [enc1], by omega, by rw [sizes_append]; simp [sizes, sizeD]; omega, by simp; omega, okDeeds_append q4 (show okDeeds a b [Deed.wait] from ⟨(by unfold okDeed; trivial), trivial⟩), by rw [deps_append]; simp [deps, depD]; omega, p6, p7, p8⟩
    by_cases hl : 0 < l
    · by_cases h12 : ds.length < 12
      · have gl : decide ((0 : Int) < l) = true := decide_eq_true hl
        have gd : decide (((encs ds).length : Int) < 12) = true := decide_eq_true (by rw [hel]; omega)
        refine ⟨_, rfl, Br.mk (fun _ => ?_) (fun z => absurd (gl.symm.trans z) (by decide))⟩
        refine ⟨_, rfl, ⟨_, rfl, Br.mk (fun _ => ?_) (fun z => absurd (gd.symm.trans z) (by decide))⟩⟩
        refine ⟨_, rfl, Br.mk (fun hw => ?_) (fun hw => ?_)⟩
        · -- a plain deed
          refine ⟨_, rfl, ⟨_, rfl, ⟨_, rfl, ⟨_, rfl, ⟨_, rfl, hp _ _ _ _ _ _ h3 hd0 hd4 fun d k4 r4 okd szd dpd k40 r40 => ?_⟩⟩⟩⟩⟩
          rw [su_su]
          refine ⟨by rw [encs_length]; exact sz_lt12 h12, ⟨_, rfl, ?_⟩⟩
          exact app d (l - 1) _ _ _ _ _ k4 r4 (by omega) (by omega) h12 okd (by omega) k40 r40 rfl
        · have hw : decide (way < 13) = false := hw
          have hw : ¬ way < 13 := of_decide_eq_false hw
          refine ⟨_, rfl, Br.mk (fun _ => ?_) (fun z => absurd (gl.symm.trans z) (by decide))⟩
          refine ⟨_, rfl, ⟨_, rfl, Br.mk (fun _ => ?_) (fun z => absurd (gd.symm.trans z) (by decide))⟩⟩
          -- waits
          have body2 : wpS T c (.seq (.iff (.and (.o2 .gt (.v 5) (.i 1)) (.and (.o2 .lt (.o1 .len (.v 4)) (.i 11)) (.one (.o2 .gt (.call 5 (.cons (.v 0) (.cons (.i 4) .nil))) (.i 0))))) (.seq (.om .append 4 (.consb (.tup (.consb (.s [108, 101, 97, 112]) (.consb (.v 8) (.consb (.i 1) .nil)))) .nil) none) (.set 5 (.o2 .sub (.v 5) (.i 1)))) .skip) (.seq (.om .append 4 (.consb (.tup (.consb (.s [119, 97, 105, 116]) .nil)) .nil) none) (.set 5 (.o2 .sub (.v 5) (.i 1)))))
              [some (.d (.ref p)), some (.d (.tup [.int a, .int b])), some (.d (.int room)), some (.d (.int (t : Int))), some (.vl (encs ds)), some (.d (.int l)), some (.d x), some (.d (.int way)), some (.d (.int hand)), s9, s10] (su S p (.lst [.ref q, .int k3, .int r3])) kk Q (fun σ' S' => wpS T c (.ret (.o1 .tuple (.v 4))) σ' S' (fun _ S' => Q (.d .non) S') Q (fun _ _ => False) (fun _ _ => False)) kk := by
            have fin : ∀ (S4 : Hs) (k4 r4 : Int), 0 ≤ k4 → 0 ≤ r4 → S4 = su S p (.lst [.ref q, .int k4, .int r4]) → ∀ (es : List Deed) (l' : Int), 0 < l' → es.length < 12 → (sizes es : Int) + l' = room → okDeeds a b es → deps es ≤ t →
                wpS T c (.seq (.om .append 4 (.consb (.tup (.consb (.s [119, 97, 105, 116]) .nil)) .nil) none) (.set 5 (.o2 .sub (.v 5) (.i 1)))) [some (.d (.ref p)), some (.d (.tup [.int a, .int b])), some (.d (.int room)), some (.d (.int (t : Int))), some (.vl (encs es)), some (.d (.int l')), some (.d x), some (.d (.int way)), some (.d (.int hand)), s9, s10] S4 kk Q (fun σ' S' => wpS T c (.ret (.o1 .tuple (.v 4))) σ' S' (fun _ S' => Q (.d .non) S') Q (fun _ _ => False) (fun _ _ => False)) kk := fun S4 k4 r4 p6 p7 p8 es l' q1 q2 q3 q4 q5 =>
              ⟨_, rfl, ⟨_, rfl, (show 1 ≤ sizeLine by decide), ⟨by rw [encs_length]; exact sz_lt12 q2, ⟨_, rfl, wait2 hl h12 S4 k4 r4 p6 p7 p8 es l' q1 q2 q3 q4 q5⟩⟩⟩⟩
            have plain := fin _ k3 r3 k30 r30 rfl ds l hl h12 hsz hok hdp
            refine ⟨_, rfl, Br.mk (fun g => ?_) (fun _ => Br.mk (fun z => by cases z) (fun _ => plain))⟩
            have g : decide ((1 : Int) < l) = true := g
            have g := of_decide_eq_true g
            refine ⟨_, rfl, ⟨_, rfl, Br.mk (fun g2 => ?_) (fun _ => Br.mk (fun z => by cases z) (fun _ => plain))⟩⟩
            have g2 : decide (((encs ds).length : Int) < 11) = true := g2
            have g2 : ds.length < 11 := by have := of_decide_eq_true g2; omega
            refine ⟨_, rfl, ht _ _ _ _ _ h3 (by decide) (by decide) fun v k4 r4 v0 v1 k40 r40 => ?_⟩
            rw [su_su]
            refine Br.mk (fun _ => ?_) (fun _ => fin _ k4 r4 k40 r40 rfl ds l hl h12 hsz hok hdp)
            refine ⟨_, rfl, ⟨_, rfl, ⟨_, rfl, (show 3 ≤ sizeLine by decide), ⟨by rw [encs_length]; exact sz_lt12 h12, ⟨_, rfl, ?_⟩⟩⟩⟩⟩
            have e1 : encs ds ++ [D.tup [sLeap, .int hand, .int 1]] = encs (ds ++ [.leap hand 1]) := enc1 ds (.leap hand 1)
            show wpS T c _ [some (.d (.ref p)), some (.d (.tup [.int a, .int b])), some (.d (.int room)), some (.d (.int (t : Int))), some (.vl (encs ds ++ [D.tup [sLeap, .int hand, .int 1]])), some (.d (.int (l - 1))), some (.d x), some (.d (.int way)), some (.d (.int hand)), s9, s10] _ _ _ _ _
            rw [e1]
            exact fin _ k4 r4 k40 r40 rfl (ds ++ [.leap hand 1]) (l - 1) (by omega) (by simp; omega) (by rw [sizes_append]; simp [sizes, sizeD]; omega) (okDeeds_append hok (show okDeeds a b [Deed.leap hand 1] from ⟨(by unfold okDeed; exact ⟨hd0, hd4, by omega, by omega⟩), trivial⟩)) (by rw [deps_append]; simp [deps, depD]; omega)
          refine ⟨_, rfl, ⟨rfl, rfl, Br.mk (fun _ => Br.mk (fun _ => body2) (fun z => by cases z)) (fun _ => ?_)⟩⟩
          refine ⟨_, rfl, ⟨rfl, rfl, Br.mk (fun _ => body2) (fun ht0 => ?_)⟩⟩
          have ht0 : decide ((t : Int) = 0) = false := ht0
          have ht1 : 1 ≤ t := by have := of_decide_eq_false ht0; omega
          have et : (t : Int) - 1 = ((t - 1 : Nat) : Int) := by omega
          -- a try
          refine ⟨_, rfl, Br.mk (fun _ => ?_) (fun z => absurd (gl.symm.trans z) (by decide))⟩
          refine ⟨_, rfl, ⟨_, rfl, Br.mk (fun _ => ?_) (fun z => absurd (gd.symm.trans z) (by decide))⟩⟩
          have hd' : ∀ (S : Hs) (k r room : Int) (Q : VK2), PenAt S p q ns k r → 0 ≤ room → room ≤ 1000 → (∀ (ds : List Deed) (k' r' : Int), (sizes ds : Int) ≤ room → ds.length ≤ 12 → okDeeds a b ds → deps ds ≤ t - 1 → 0 ≤ k' → 0 ≤ r' → Q (.d (.tup (encs ds))) (su S p (.lst [.ref q, .int k', .int r']))) →
              c 25 [.d (.ref p), .d (.tup [.int a, .int b]), .d (.int room), .d (.int ((t : Int) - 1))] S Q := fun S k r room Q => by rw [et]; exact hd S k r room Q ht1
          have lr : l ≤ room := by omega
          refine ⟨_, rfl, ⟨_, rfl, ⟨_, rfl, ⟨_, rfl, ht _ _ _ _ _ h3 hl (lbnd hl (by omega)) fun f1 k4 r4 f10 f11 k40 r40 => ?_⟩⟩⟩⟩
          rw [su_su]
          have h4 := h.up k40 r40
          refine ⟨_, rfl, hd' _ _ _ _ _ h4 f10 (by omega) fun d1 k5 r5 sz1 ln1 ok1 dp1 k50 r50 => ?_⟩
          rw [su_su]
          have h5' := h.up k50 r50
          refine ⟨_, rfl, ⟨_, rfl, hz d1 _ _ (by omega) ?_⟩⟩
          refine ⟨_, rfl, ⟨_, rfl, ⟨_, rfl, ⟨_, rfl, ht _ _ _ _ _ h5' (by omega) (lbnd (by omega) (by omega)) fun f2 k6 r6 f20 f21 k60 r60 => ?_⟩⟩⟩⟩
          rw [su_su]
          have h6 := h.up k60 r60
          refine ⟨_, rfl, hd' _ _ _ _ _ h6 f20 (by omega) fun d2 k7 r7 sz2 ln2 ok2 dp2 k70 r70 => ?_⟩
          rw [su_su]
          refine ⟨_, rfl, ⟨_, rfl, hz d2 _ _ (by omega) ?_⟩⟩
          refine ⟨_, rfl, ⟨_, rfl, ⟨_, rfl, ⟨_, rfl, (show 3 ≤ sizeLine by decide), ⟨by rw [encs_length]; exact sz_lt12 h12, ?_⟩⟩⟩⟩⟩
          exact app (.try_ d1 d2) (l - 1 - (sizes d1 : Int) - (sizes d2 : Int)) _ _ _ _ _ k7 r7 (by omega) (by simp [sizeD]; omega) h12 (by unfold okDeed; exact ⟨⟨ok1, ln1⟩, ok2, ln2⟩) (by simp [depD]; omega) k70 r70 rfl
      · have gl : decide ((0 : Int) < l) = true := decide_eq_true hl
        have gd : decide (((encs ds).length : Int) < 12) = false := decide_eq_false (by rw [hel]; omega)
        refine ⟨_, rfl, Br.mk (fun _ => ?_) (fun z => absurd (gl.symm.trans z) (by decide))⟩
        refine ⟨_, rfl, ⟨_, rfl, Br.mk (fun z => absurd (gd.symm.trans z) (by decide)) (fun _ => Br.mk (fun z => by cases z) (fun _ => ?_))⟩⟩
        refine ⟨_, rfl, Br.mk (fun _ => ?_) (fun z => absurd (gl.symm.trans z) (by decide))⟩
        refine ⟨_, rfl, ⟨_, rfl, Br.mk (fun z => absurd (gd.symm.trans z) (by decide)) (fun _ => Br.mk (fun z => by cases z) (fun _ => ?_))⟩⟩
        refine ⟨_, rfl, Br.mk (fun _ => ?_) (fun z => absurd (gl.symm.trans z) (by decide))⟩
        exact ⟨_, rfl, ⟨_, rfl, Br.mk (fun z => absurd (gd.symm.trans z) (by decide)) (fun _ => stay)⟩⟩
    · have gl : decide ((0 : Int) < l) = false := decide_eq_false hl
      refine ⟨_, rfl, Br.mk (fun z => absurd (gl.symm.trans z) (by decide)) (fun _ => Br.mk (fun z => by cases z) (fun _ => ?_))⟩
      refine ⟨_, rfl, Br.mk (fun z => absurd (gl.symm.trans z) (by decide)) (fun _ => Br.mk (fun z => by cases z) (fun _ => ?_))⟩
      exact ⟨_, rfl, Br.mk (fun z => absurd (gl.symm.trans z) (by decide)) (fun _ => Br.mk (fun z => by cases z) (fun _ => stay))⟩
theorem Br.tt {A B : Prop} (a : A) : Br true A B := ⟨fun _ => a, fun e => by cases e⟩
theorem Br.ff {A B : Prop} (b : B) : Br false A B := ⟨fun e => (by cases e), fun _ => b⟩
theorem Br.of {k : Bool} {A B : Prop} (b : Bool) (e : k = b) (h : if b = true then A else B) : Br k A B := by
  subst e
  cases k
  · exact Br.ff (by simpa using h)
  · exact Br.tt (by simpa using h)
noncomputable def encI {α : Type} (f : α → D) (kvs : List (Int × α)) : List (D × D) := kvs.map fun p => (.int p.1, f p.2)
noncomputable def pget {α : Type} : List (Int × α) → Int → Option α
  | [], _ => none
  | (k, v) :: r, x => if k = x then some v else pget r x
noncomputable def pput {α : Type} (kvs : List (Int × α)) (x : Int) (y : α) : List (Int × α) := if (pget kvs x).isSome then kvs.map fun p => if p.1 = x then (p.1, y) else p else kvs ++ [(x, y)]
section
variable {α : Type} {f : α → D}
end
theorem nodup_le : ∀ (n : Nat) (l : List Int), l.Nodup → (∀ x ∈ l, 0 ≤ x ∧ x < (n : Int)) → l.length ≤ n
  | 0, [], _, _ => Nat.le_refl _
  | 0, x :: l, _, h => by have := h x List.mem_cons_self; omega
  | n + 1, l, hd, h => by
    have h1 : (l.filter fun x => x ≠ (n : Int)).length ≤ n := nodup_le n _ (hd.filter _) fun x hx => by
      have h2 := List.mem_filter.mp hx
      have h3 := h x h2.1
      have h4 : x ≠ (n : Int) := by simpa using h2.2
      omega
    have h5 : ∀ l : List Int, l.Nodup → l.length ≤ (l.filter fun x => x ≠ (n : Int)).length + 1 := by
      intro l
      induction l with
      | nil => intro _; simp
      | cons x l ih =>
        intro hd
        rw [List.nodup_cons] at hd
        by_cases e : x = (n : Int)
        · have : l.filter (fun x => x ≠ (n : Int)) = l := List.filter_eq_self.mpr fun y hy => by
            have : y ≠ (n : Int) := fun q => hd.1 (by rw [e, ← q]; exact hy)
            simpa using this
          rw [List.filter_cons, if_neg (by simp [e]), this]; simp
        · have := ih hd.2
          rw [List.filter_cons, if_pos (by simp [e])]; rw [List.length_cons, List.length_cons]; omega
    have := h5 l hd
    omega
structure St where
  puts : List (Int × Int)
  held : List Int
  looked : List (Int × Bool)
noncomputable def iget (l : List Int) (i : Int) : Int := l.getD i.toNat 0
noncomputable def seen (s : List Int) (puts : List (Int × Int)) (b : Int) : Int := (pget puts b).getD (iget s b)
theorem fr_none {F S : Hs} {a : Addr} (fr : ∀ b x, F b = some x → S b = some x) (h : S a = none) : F a = none := by
  cases e : F a with
  | none => rfl
  | some x => rw [fr a x e] at h; cases h
section
variable {F S : Hs} {o pa ha la : Addr} {w : Int} {s : List Int} {st : St}
end
section
variable {T : Tbl} {F S : Hs} {o pa ha la : Addr} {w : Int} {s : List Int} {st : St} {Q : VK2}
end
section
variable {T : Tbl} {F S : Hs} {o pa ha la : Addr} {w : Int} {s : List Int} {st : St} {Q : VK2}
end
section
variable {T : Tbl} {o la : Addr} {w nw : Int} {s : List Int}
end
section
variable {T : Tbl} {o la : Addr} {w nw : Int} {s : List Int}
end
noncomputable def Ext (F S : Hs) : Prop := ∀ b x, F b = some x → S b = some x
theorem Ext.trans {A B C : Hs} (h : Ext A B) (k : Ext B C) : Ext A C := fun b x e => k b x (h b x e)
theorem Ext.none {F S : Hs} {a : Addr} (h : Ext F S) (n : S a = none) : F a = none := fr_none h n
section
variable {T : Tbl} {F S : Hs} {o pa ha la : Addr} {w : Int} {s : List Int} {st : St} {Q : VK2}
end
section
variable {F S : Hs} {na sa oa ha la : Addr} {s : List Int} {st : St}
end
section
variable {T : Tbl} {F S : Hs} {na sa oa ha la : Addr} {a w : Int} {s : List Int} {st : St} {Q : VK2}
end
section
variable {T : Tbl} {na la : Addr} {a w nw : Int} {s : List Int}
end
section
variable {T : Tbl} {S : Hs} {w : Int} {s : List Int} {Q : VK2}
end
noncomputable def All2 {α : Type} (P : α → α → Prop) : List α → List α → Prop
  | [], [] => True
  | x :: xs, y :: ys => P x y ∧ All2 P xs ys
  | _, _ => False
noncomputable def Sm (S : Hs) : Nat → D → D → Prop
  | _, .non, y => y = .non
  | _, .bl a, y => y = .bl a
  | _, .int a, y => y = .int a
  | _, .xt _, _ => False
  | _, .str a, y => y = .str a ∧ (a.all fun c => decide (c < 1114112)) = true
  | n + 1, .tup xs, y => ∃ ys, y = .tup ys ∧ xs.length ≤ sizeLine ∧ All2 (Sm S n) xs ys
  | n + 1, .ref a, y => ∃ b xs ys, y = .ref b ∧ S a = some (.lst xs) ∧ S b = some (.lst ys) ∧ xs.length ≤ sizeLine ∧ All2 (Sm S n) xs ys
  | 0, _, _ => False
theorem All2.len {α : Type} {P : α → α → Prop} : ∀ {xs ys : List α}, All2 P xs ys → xs.length = ys.length
  | [], [], _ => rfl
  | x :: xs, y :: ys, h => by simp [All2.len h.2]
  | [], _ :: _, h => h.elim
  | _ :: _, [], h => h.elim
theorem All2.zip {P : D → D → Prop} : ∀ {xs ys : List D}, All2 P xs ys → ∀ z ∈ zipD xs ys, ∃ x y, z = .tup [x, y] ∧ P x y
  | [], [], _, z, h => by cases h
  | x :: xs, y :: ys, a, z, h => by
    rcases List.mem_cons.mp h with rfl | h
    · exact ⟨x, y, rfl, a.1⟩
    · exact All2.zip a.2 z h
  | [], _ :: _, a, _, _ => a.elim
  | _ :: _, [], a, _, _ => a.elim
theorem any_tt (xs : List D) : ((xs.map fun _ => D.bl true).any fun y => eqB y (.bl false)) = false := by
  induction xs with
  | nil => rfl
  | cons x xs ih => rw [List.map_cons, List.any_cons, ih]; rfl
theorem plns_tt (xs : List D) : plns (xs.map fun _ => D.bl true) = true := by
  show pls 60 _ = true
  induction xs with
  | nil => simp [pls]
  | cons x xs ih => simp only [List.map_cons, pls, ih, Bool.and_true]; rfl
theorem zip_len (xs ys : List D) : (zipD xs ys).length ≤ xs.length := by rw [zipD_length]; exact Nat.min_le_left _ _
theorem same_ok {T : Tbl} (hT : T.fn 35 = some f_law_same) : ∀ (n : Nat) (x y : D) (S : Hs) (Q : VK2), Sm S n x y → Q (.d (.bl true)) S → cal T (n + 1) 35 [.d x, .d y] S Q := by
  intro n
  induction n using Nat.strongRecOn with
  | _ n ih =>
  intro x y S Q h w
  cases x with
  | xt ds => cases n <;> exact h.elim
  | int i =>
    have h : y = .int i := by cases n <;> exact h
    subst h
    refine ⟨_, hT, rfl, rfl, ?_⟩
    refine ⟨_, rfl, ⟨_, rfl, Br.ff ?_⟩⟩
    refine ⟨_, rfl, ⟨_, rfl, Br.ff ?_⟩⟩
    refine ⟨_, rfl, ⟨_, rfl, Br.ff ?_⟩⟩
    refine ⟨_, rfl, ⟨_, rfl, Br.tt ?_⟩⟩
    refine ⟨_, rfl, ⟨_, rfl, Br.tt ?_⟩⟩
    refine ⟨_, rfl, ⟨_, rfl, Br.tt ?_⟩⟩
    refine ⟨_, rfl, ⟨_, rfl, ⟨rfl, rfl, ?_⟩⟩⟩
    show Q (.d (.bl (decide (i = i)))) S
    rw [decide_eq_true rfl]; exact w
  | non =>
    have h : y = .non := by cases n <;> exact h
    subst h
    refine ⟨_, hT, rfl, rfl, ?_⟩
    exact ⟨_, rfl, ⟨_, rfl, Br.tt ⟨_, rfl, ⟨_, rfl, w⟩⟩⟩⟩
  | bl b =>
    have h : y = .bl b := by cases n <;> exact h
    subst h
    refine ⟨_, hT, rfl, rfl, ?_⟩
    refine ⟨_, rfl, ⟨_, rfl, Br.ff ?_⟩⟩
    refine ⟨_, rfl, ⟨_, rfl, Br.tt ?_⟩⟩
    refine ⟨_, rfl, ⟨_, rfl, Br.tt ?_⟩⟩
    refine ⟨_, rfl, ⟨_, rfl, ⟨rfl, rfl, ?_⟩⟩⟩
    show Q (.d (.bl (b == b))) S
    rw [beq_self_eq_true]; exact w
  | str a =>
    have h : y = .str a ∧ (a.all fun c => decide (c < 1114112)) = true := by cases n <;> exact h
    obtain ⟨rfl, ha⟩ := h
    refine ⟨_, hT, rfl, rfl, ?_⟩
    refine ⟨_, rfl, ⟨_, rfl, Br.ff ?_⟩⟩
    refine ⟨_, rfl, ⟨_, rfl, Br.ff ?_⟩⟩
    refine ⟨_, rfl, ⟨_, rfl, Br.tt ?_⟩⟩
    refine ⟨_, rfl, ⟨_, rfl, Br.tt ?_⟩⟩
    refine ⟨_, rfl, ⟨_, rfl, ⟨ha, ha, ?_⟩⟩⟩
    show Q (.d (.bl (decide (a = a)))) S
    rw [decide_eq_true rfl]; exact w
  | tup xs =>
    cases n with
    | zero => exact h.elim
    | succ n =>
    obtain ⟨ys, rfl, hl, ha⟩ := h
    refine ⟨_, hT, rfl, rfl, ?_⟩
    have ih := ih n (Nat.lt_succ_self n)
    generalize cal T (n + 1) = c at ih ⊢
    refine ⟨_, rfl, ⟨_, rfl, Br.ff ?_⟩⟩
    refine ⟨_, rfl, ⟨_, rfl, Br.ff ?_⟩⟩
    refine ⟨_, rfl, ⟨_, rfl, Br.ff ?_⟩⟩
    refine ⟨_, rfl, ⟨_, rfl, Br.ff ?_⟩⟩
    refine ⟨_, rfl, ⟨_, rfl, ⟨_, rfl, ⟨_, rfl, ⟨rfl, rfl, Br.ff ?_⟩⟩⟩⟩⟩
    refine ⟨_, rfl, ⟨_, rfl, ⟨_, rfl, ⟨_, rfl, ⟨rfl, rfl, Br.ff ?_⟩⟩⟩⟩⟩
    refine ⟨_, rfl, ⟨_, rfl, ⟨_, rfl, ⟨_, rfl, ⟨rfl, rfl, Br.of true (decide_eq_true (congrArg Int.ofNat ha.len)) ?_⟩⟩⟩⟩⟩
    refine ⟨_, rfl, ⟨_, rfl, ⟨rfl, trivial, ?_⟩⟩⟩
    refine compL_map (fun _ => .bl true) ⟨trivial, trivial⟩ _ _ ?_ ?_ ?_
    · intro z hz P1 P2 k
      obtain ⟨x, y, rfl, hp⟩ := ha.zip z hz
      refine ⟨_, rfl, Br.tt ?_⟩
      exact ⟨_, rfl, ⟨_, rfl, ih x y S _ hp k⟩⟩
    · exact Nat.le_trans (by rw [List.length_nil, Nat.zero_add]; exact zip_len _ _) hl
    · refine ⟨rfl, plns_tt _, ?_⟩
      show Q (.d (.bl (!((zipD xs ys).map fun _ => D.bl true).any fun y => eqB y (.bl false)))) S
      rw [any_tt]
      exact w
  | ref a =>
    cases n with
    | zero => exact h.elim
    | succ n =>
    obtain ⟨b, xs, ys, rfl, e1, e2, hl, ha⟩ := h
    have t1 : ∀ t : Ty, t.isD (.ref a) S = some (decide (t = .list)) := fun t => by
      show (match S a with | some (.lst _) => some (decide (t = Ty.list)) | some (.dic _) => some (decide (t = Ty.dict)) | _ => none) = _; rw [e1]
    have t2 : ∀ t : Ty, t.isD (.ref b) S = some (decide (t = .list)) := fun t => by
      show (match S b with | some (.lst _) => some (decide (t = Ty.list)) | some (.dic _) => some (decide (t = Ty.dict)) | _ => none) = _; rw [e2]
    refine ⟨_, hT, rfl, rfl, ?_⟩
    have ih := ih n (Nat.lt_succ_self n)
    generalize cal T (n + 1) = c at ih ⊢
    refine ⟨_, rfl, ⟨_, rfl, Br.ff ?_⟩⟩
    refine ⟨_, rfl, ⟨_, t2 _, Br.ff ?_⟩⟩
    refine ⟨_, rfl, ⟨_, t2 _, Br.ff ?_⟩⟩
    refine ⟨_, rfl, ⟨_, t2 _, Br.ff ?_⟩⟩
    refine ⟨_, rfl, ⟨_, t2 _, ⟨_, rfl, ⟨_, t1 _, ⟨rfl, rfl, Br.ff ?_⟩⟩⟩⟩⟩
    refine ⟨_, rfl, ⟨_, t2 _, ⟨_, rfl, ⟨_, t1 _, ⟨rfl, rfl, Br.ff ?_⟩⟩⟩⟩⟩
    refine ⟨_, rfl, ⟨_, e1, _, rfl, ⟨_, rfl, ⟨_, e2, _, rfl, ⟨rfl, rfl, Br.of true (decide_eq_true (congrArg Int.ofNat ha.len)) ?_⟩⟩⟩⟩⟩
    refine ⟨_, rfl, ⟨_, e1, ⟨_, rfl, ⟨_, e2, ⟨rfl, e1, ?_⟩⟩⟩⟩⟩
    refine compL_map (fun _ => .bl true) ⟨e1, e2⟩ _ _ ?_ ?_ ?_
    · intro z hz P1 P2 k
      obtain ⟨x, y, rfl, hp⟩ := ha.zip z hz
      refine ⟨_, rfl, Br.tt ?_⟩
      exact ⟨_, rfl, ⟨_, rfl, ih x y S _ hp k⟩⟩
    · exact Nat.le_trans (by rw [List.length_nil, Nat.zero_add]; exact zip_len _ _) hl
    · refine ⟨rfl, plns_tt _, ?_⟩
      show Q (.d (.bl (!((zipD xs ys).map fun _ => D.bl true).any fun y => eqB y (.bl false)))) S
      rw [any_tt]
      exact w
theorem All2.imp {α : Type} {P P' : α → α → Prop} (h : ∀ x y, P x y → P' x y) : ∀ {xs ys : List α}, All2 P xs ys → All2 P' xs ys
  | [], [], _ => trivial
  | _ :: _, _ :: _, a => ⟨h _ _ a.1, All2.imp h a.2⟩
  | [], _ :: _, a => a.elim
  | _ :: _, [], a => a.elim
theorem Sm.succ {S : Hs} : ∀ {n : Nat} {x y : D}, Sm S n x y → Sm S (n + 1) x y
  | n, .non, y, h => by cases n <;> exact h
  | n, .bl _, y, h => by cases n <;> exact h
  | n, .int _, y, h => by cases n <;> exact h
  | n, .str _, y, h => by cases n <;> exact h
  | n, .xt _, y, h => by cases n <;> exact h.elim
  | n + 1, .tup xs, y, ⟨ys, e, l, a⟩ => ⟨ys, e, l, a.imp fun _ _ => Sm.succ⟩
  | n + 1, .ref _, y, ⟨b, xs, ys, e, e1, e2, l, a⟩ => ⟨b, xs, ys, e, e1, e2, l, a.imp fun _ _ => Sm.succ⟩
  | 0, .tup _, _, h => h.elim
  | 0, .ref _, _, h => h.elim
theorem Sm.le {S : Hs} {n m : Nat} {x y : D} (h : n ≤ m) (s : Sm S n x y) : Sm S m x y := by
  induction m with
  | zero => have : n = 0 := by omega
            subst this; exact s
  | succ m ih =>
    by_cases e : n = m + 1
    · subst e; exact s
    · exact (ih (by omega)).succ
theorem same_ok' {T : Tbl} (hT : T.fn 35 = some f_law_same) (m : Nat) {n : Nat} {x y : D} {S : Hs} {Q : VK2} (h : n ≤ m) (s : Sm S n x y) (w : Q (.d (.bl true)) S) : cal T (m + 1) 35 [.d x, .d y] S Q := same_ok hT m x y S Q (s.le h) w
theorem one1_i {P : VK2} {x : Vx} {S : Hs} (h : P x S) : one1 P [x] S := h
noncomputable def Fr (p : Addr) (S S' : Hs) : Prop := ∀ b o, S b = some o → b ≠ p → S' b = some o
theorem Fr.trans {p : Addr} {A B C : Hs} (h : Fr p A B) (k : Fr p B C) : Fr p A C := fun b o e n => k b o (h b o e n) n
theorem Fr.pen {p : Addr} {S : Hs} {o : O} : Fr p S (su S p o) := fun b x e n => by rw [su_ne n]; exact e
inductive Ev where
  | begin (a : Int) | look (a b h : Int) | put (a b h : Int) | done (a : Int) | fall (a : Int)
  deriving DecidableEq
noncomputable def Ev.who : Ev → Int
  | .begin a => a | .look a _ _ => a | .put a _ _ => a | .done a => a | .fall a => a
noncomputable def Gd (nb w a : Int) (puts : List (Int × Int)) : Ev → Prop
  | .begin _ => False
  | .look x b h => x = a ∧ (0 ≤ b ∧ b < nb) ∧ (0 ≤ h ∧ h < w) ∧ ∀ y, pget puts b = some y → y = h
  | .put x b h => x = a ∧ (0 ≤ b ∧ b < nb) ∧ (0 ≤ h ∧ h < w)
  | .done x => x = a
  | .fall x => x = a
noncomputable abbrev Kp := Int → Option (Option (List (Int × Int)))
noncomputable def okE (nb w : Int) (K : Kp) : Ev → Prop
  | .begin a => K a = none ∧ 0 ≤ a ∧ a < 200
  | e => ∃ puts, K e.who = some (some puts) ∧ Gd nb w e.who puts e
noncomputable def stp (K : Kp) : Ev → Kp
  | .begin a => fun x => if x = a then some (some []) else K x
  | .look _ _ _ => K
  | .put a b h => fun x => if x = a then (K a).map (Option.map fun ps => pput ps b h) else K x
  | .done a => fun x => if x = a then some none else K x
  | .fall a => fun x => if x = a then some none else K x
structure Gg where
  a : Int
  seen : List Int
  r : Addr
noncomputable def Gg.ne (g h : Gg) : Prop := g.a ≠ h.a ∧ g.r ≠ h.r
theorem Gg.ne.symm {g h : Gg} (x : g.ne h) : h.ne g := ⟨x.1.symm, x.2.symm⟩
noncomputable def PutsOk (nb w : Int) (puts : List (Int × Int)) : Prop := (puts.map Prod.fst).Nodup ∧ (∀ x ∈ puts.map Prod.fst, 0 ≤ x ∧ x < nb) ∧ ∀ x y, pget puts x = some y → 0 ≤ y ∧ y < w
theorem PutsOk.len {nb w : Int} {puts : List (Int × Int)} (o : PutsOk nb w puts) (n0 : 0 ≤ nb) (n6 : nb ≤ 6) : puts.length ≤ 6 := by
  have := nodup_le 6 _ o.1 fun x hx => by have := o.2.1 x hx; omega
  simpa using this
section
variable {S : Hs} {p q na : Addr} {ns : List Int} {nb w : Int} {M : Nat}
variable {S' : Hs} {k r : Int} {nms : List Int} {gs : List Gg} {now : List Int} {evs : List Ev} {K : Kp}
theorem pw_or {α : Type} {R : α → α → Prop} (sy : ∀ {x y}, R x y → R y x) : ∀ {l : List α}, l.Pairwise R → ∀ {x y}, x ∈ l → y ∈ l → x = y ∨ R x y
  | [], _, x, _, h, _ => by cases h
  | z :: l, pw, x, y, hx, hy => by
    obtain ⟨h1, h2⟩ := List.pairwise_cons.mp pw
    rcases List.mem_cons.mp hx with ex | hx'
    · rcases List.mem_cons.mp hy with ey | hy'
      · exact .inl (ex.trans ey.symm)
      · exact .inr (ex ▸ h1 y hy')
    · rcases List.mem_cons.mp hy with ey | hy'
      · exact .inr (ey ▸ sy (h1 x hx'))
      · exact pw_or sy h2 hx' hy'
end
section
variable {T : Tbl} {S : Hs} {p q na : Addr} {ns : List Int} {nb w : Int} {M : Nat} {S' : Hs} {k r : Int} {nms : List Int} {gs : List Gg} {now : List Int} {evs : List Ev} {K : Kp}
end
theorem compL_fm {α : Type} {tg : Tg} {ok : Sl → Hs → Prop} {elt : Sl → Hs → (D → Hs → Prop) → Prop} {tst : Sl → Hs → (Bool → Hs → Prop) → Prop} {σ : Sl} {K : List D → Hs → Prop} (f : α → D) (g : α → Option D) {S : Hs} (hok : ok σ S) :
    ∀ (xs : List α) (acc : List D), (∀ x ∈ xs, ∀ (P1 : D → Hs → Prop) (P2 : Hs → Prop), (∀ y, g x = some y → P1 y S) → (g x = none → P2 S) → bindT tg (f x) σ fun σ' => tst σ' S fun b S1 => Br b (elt σ' S1 P1) (P2 S1)) → acc.length + xs.length ≤ sizeLine → K (acc ++ xs.filterMap g) S → compL tg ok elt tst σ (xs.map f) acc S K
  | [], acc, _, _, k => ⟨hok, by simpa using k⟩
  | x :: xs, acc, h, hl, k => by
    have hl' : acc.length + xs.length + 1 ≤ sizeLine := by simpa [Nat.add_assoc] using hl
    refine ⟨hok, h x List.mem_cons_self _ _ (fun y e => ⟨by omega, ?_⟩) (fun e => ?_)⟩
    · refine compL_fm f g hok xs (acc ++ [y]) (fun z hz => h z (List.mem_cons_of_mem _ hz)) (by simp; omega) ?_
      rw [List.filterMap_cons, e] at k
      simpa using k
    · refine compL_fm f g hok xs acc (fun z hz => h z (List.mem_cons_of_mem _ hz)) (by omega) ?_
      rw [List.filterMap_cons, e] at k
      exact k
variable {T : Tbl} {S : Hs} {Q : VK2}
section
variable {T : Tbl} {S : Hs} {w : Int} {s : List Int} {Q : VK2}
end
variable {T : Tbl} {S : Hs} {Q : VK2}
noncomputable def KR (nb w : Int) (F S : Hs) : Option (Option Addr) → Option (Option (List (Int × Int))) → Prop
  | none, none => True
  | some none, some none => True
  | some (some r), some (some puts) => S r = some (.dic (encI D.int puts)) ∧ F r = none ∧ PutsOk nb w puts
  | _, _ => False
structure KpAt (nb w : Int) (F S : Hs) (kv : List (Int × Option Addr)) (K : Kp) : Prop where
  rel : ∀ a, KR nb w F S (pget kv a) (K a)
  inj : ∀ a b r, pget kv a = some (some r) → pget kv b = some (some r) → a = b
  ext : Ext F S
  rng : ∀ a, K a ≠ none → 0 ≤ a ∧ a < 200
section
variable {nb w : Int} {F S : Hs} {kv : List (Int × Option Addr)} {K : Kp}
theorem KpAt.open_ (k : KpAt nb w F S kv K) {a : Int} {puts : List (Int × Int)} (h : K a = some (some puts)) : ∃ r, pget kv a = some (some r) ∧ S r = some (.dic (encI D.int puts)) ∧ F r = none ∧ PutsOk nb w puts := by
  have := k.rel a
  rw [h] at this
  cases hp : pget kv a with
  | none => rw [hp] at this; exact this.elim
  | some p => cases p with
    | none => rw [hp] at this; exact this.elim
    | some r => rw [hp] at this; exact ⟨r, rfl, this⟩
end
end LW
namespace LU
open PySem L2 PySem.Spec PyProof.Rows DL LW
noncomputable def Fr (p : Addr) (S S' : Hs) : Prop := ∀ b o, S b = some o → b ≠ p → S' b = some o
theorem Fr.trans {p : Addr} {A B C : Hs} (h : Fr p A B) (k : Fr p B C) : Fr p A C := fun b o e n => k b o (h b o e n) n
theorem Fr.pen {p : Addr} {S : Hs} {o : O} : Fr p S (su S p o) := fun b x e n => by rw [su_ne n]; exact e
theorem isS {T : Tbl} {c : Nat → List Vx → Hs → VK2 → Prop} {r : R} {σ : Sl} {S : Hs} {nx bk ct : SK2} {rt : VK2} (h : DL.wpS T c r σ S nx rt bk ct) : DL.wpS T c r σ S nx rt bk ct := h
section
variable {α : Type} {f : α → D}
end
theorem Fr.none {p a : Addr} {S S1 : Hs} {o : O} (h : Fr p S S1) (hp : S1 p = some o) (n : S1 a = none) : S a = none ∧ a ≠ p := by
  have np : a ≠ p := fun e => by subst e; rw [hp] at n; cases n
  refine ⟨?_, np⟩
  cases q : S a with
  | none => rfl
  | some o => rw [h a o q np] at n; cases n
end LU
namespace LW
open PySem L2 PySem.Spec PyProof.Rows DL
noncomputable def partOk (S : Hs) (d : D) : Prop := pl 3 d = true ∨ ∃ a ds, d = .ref a ∧ S a = some (.lst ds) ∧ pls 3 ds = true
noncomputable def dok (S : Hs) (x : D) : Prop := partOk S x ∨ ∃ ds, x = .tup ds ∧ ∀ d ∈ ds, partOk S d
noncomputable abbrev cBegin : List Nat := [98, 101, 103, 105, 110]
noncomputable abbrev cFall : List Nat := [102, 97, 108, 108]
noncomputable abbrev cDone : List Nat := [100, 111, 110, 101]
noncomputable abbrev cLook : List Nat := [108, 111, 111, 107]
noncomputable abbrev cPut : List Nat := [112, 117, 116]
noncomputable def evOf (nb w : Int) : D → Option Ev
  | .tup [.str s, .int a] => if 0 ≤ a ∧ a < 200 then (if s = cBegin then some (.begin a) else if s = cDone then some (.done a) else if s = cFall then some (.fall a) else none) else none
  | .tup [.str s, .int a, .int b, .int h] => if (0 ≤ a ∧ a < 200) ∧ (0 ≤ b ∧ b < nb) ∧ (0 ≤ h ∧ h < w) then (if s = cLook then some (.look a b h) else if s = cPut then some (.put a b h) else none) else none
  | _ => none
end LW
namespace LW
open PySem L2 PySem.Spec PyProof.Rows DL Classical
theorem forL_ind {tg : Tg} {ok : SK2} {body : SK2 → SK2} {nx : SK2} (I : List D → SK2) (hok : ∀ l σ S, I l σ S → ok σ S) (hend : ∀ σ S, I [] σ S → nx σ S)
    (step : ∀ x r (k : SK2) σ S, (∀ σ S, I r σ S → k σ S) → I (x :: r) σ S → bindT tg x σ fun σ' => body k σ' S) : ∀ xs σ S, I xs σ S → forL tg ok body nx xs σ S
  | [], σ, S, i => ⟨hok _ _ _ i, hend _ _ i⟩
  | x :: xs, σ, S, i => ⟨hok _ _ _ i, step x xs _ σ S (forL_ind I hok hend step xs) i⟩
theorem Br.eT {k : Bool} {A B : Prop} (e : k = true) (a : A) : Br k A B := by subst e; exact Br.tt a
theorem Br.eF {k : Bool} {A B : Prop} (e : k = false) (b : B) : Br k A B := by subst e; exact Br.ff b
noncomputable def K0 : Kp := fun _ => none
noncomputable def logP (nb w : Int) : List D → Kp → Prop
  | [], _ => True
  | d :: r, K => ∃ e, evOf nb w d = some e ∧ okE nb w K e ∧ logP nb w r (stp K e)
inductive Th (S : Hs) : Vx → Option (List D) → Prop where
  | bw (ds : List D) : Th S (.bw ds) (some ds)
  | ref (a : Addr) (ds : List D) : S a = some (.lst ds) → Th S (.d (.ref a)) (some ds)
  | no (x : D) : okD S x → (∀ a, x ≠ .ref a) → Th S (.d x) none
noncomputable def resT (nb w : Int) : Option (List D) → Bool
  | none => false
  | some ds => decide (ds.length ≤ 2000 ∧ logP nb w ds K0)
theorem Th.len {S : Hs} {x : Vx} {ds : List D} {Q : VK2} (h : Th S x (some ds)) (q : Q (.d (.int (ds.length : Int))) S) : op1D .len x S Q := by
  cases h with
  | bw ds => exact ⟨_, rfl, q⟩
  | ref a ds e => exact ⟨_, e, ⟨_, rfl, q⟩⟩
section
variable {nb w : Int} {F S : Hs} {kv : List (Int × Option Addr)} {K : Kp}
theorem KpAt.three (k : KpAt nb w F S kv K) (a : Int) : (K a = none ∧ pget kv a = none) ∨ (K a = some none ∧ pget kv a = some none) ∨
    ∃ puts r, K a = some (some puts) ∧ pget kv a = some (some r) ∧ S r = some (.dic (encI D.int puts)) := by
  have := k.rel a
  cases hK : K a with
  | none =>
    rw [hK] at this
    cases hp : pget kv a with
    | none => exact .inl ⟨rfl, rfl⟩
    | some p => rw [hp] at this; cases p <;> exact this.elim
  | some q =>
    cases q with
    | none =>
      rw [hK] at this
      cases hp : pget kv a with
      | none => rw [hp] at this; exact this.elim
      | some p => cases p with
        | none => exact .inr (.inl ⟨rfl, rfl⟩)
        | some r => rw [hp] at this; exact this.elim
    | some puts =>
      obtain ⟨r, h1, h2, _, _⟩ := k.open_ hK
      exact .inr (.inr ⟨puts, r, rfl, h1, h2⟩)
end
section
variable {nb w : Int} {K : Kp} {bs os : List Int} {kvs : List (List Int × Int)}
end
end LW
namespace LW
open PySem L2 PySem.Spec PyProof.Rows DL
local macro_rules | `(tactic| walk_at "dl_go") => `(tactic| repeat (first | refine ⟨Nat.le_of_ble_eq_true rfl, ?_⟩ | refine ⟨_, rfl, ?_⟩))
local macro_rules | `(tactic| walk_at "dl_part") => `(tactic| first | exact Or.inl rfl | assumption | exact Or.inl (by assumption))
local macro_rules | `(tactic| walk_at "dl_dok") => `(tactic| first
  | exact Or.inl (Or.inl rfl)
  | exact Or.inl (by assumption)
  | exact dok.tup1 (List.forall_mem_cons.mpr ⟨by walk_at "dl_part", List.forall_mem_cons.mpr ⟨by walk_at "dl_part", List.forall_mem_nil _⟩⟩)
  | exact dok.tup1 (List.forall_mem_cons.mpr ⟨by walk_at "dl_part", List.forall_mem_cons.mpr ⟨by walk_at "dl_part", List.forall_mem_cons.mpr ⟨by walk_at "dl_part", List.forall_mem_cons.mpr ⟨by walk_at "dl_part", List.forall_mem_nil _⟩⟩⟩⟩))
theorem grow {T : Tbl} {c : Nat → List Vx → Hs → VK2 → Prop} (hc : CalMono c) {as rest : R} {a0 a1 a2 a3 a5 : Option Vx} {S : Hs} {L : List D} {nx : SK2} {rt : VK2} {bk ct : SK2} (hl : L.length ≤ 100)
    (w : wpE T c as [a0, a1, a2, a3, some (.vl L), a5] S fun xs S1 => ∃ ds, unD xs = some ds ∧ ds.length ≤ 10 ∧ ∀ L', (∀ y, y ∈ L' → y ∈ L ∨ y ∈ ds) → L'.length = L.length + ds.length → wpS T c rest [a0, a1, a2, a3, some (.vl L'), a5] S1 nx rt bk ct) :
    wpS T c (.seq (.set 4 (.o2 .add (.v 4) (.lst as))) rest) [a0, a1, a2, a3, some (.vl L), a5] S nx rt bk ct :=
  ⟨_, rfl, show wpE T c as _ S _ from wpE_mono hc w fun xs S1 ⟨ds, e, l, k⟩ => ⟨ds, e, Nat.le_trans l (by decide), ⟨(by show L.length + ds.length ≤ sizeLine; rw [sizeLine_eq]; omega), k _ (fun y hy => List.mem_append.mp hy) (by simp)⟩⟩⟩
noncomputable abbrev cSet : List Nat := [115, 101, 116]
noncomputable abbrev cPlus : List Nat := [112, 108, 117, 115]
noncomputable abbrev cLeap : List Nat := [108, 101, 97, 112]
noncomputable abbrev cWait : List Nat := [119, 97, 105, 116]
noncomputable abbrev cTry : List Nat := [116, 114, 121]
noncomputable abbrev nHand : List Nat := [104, 97, 110, 100]
noncomputable abbrev nBox : List Nat := [98, 111, 120]
noncomputable abbrev nNumber : List Nat := [110, 117, 109, 98, 101, 114]
noncomputable abbrev nLeap : List Nat := [108, 101, 97, 112]
noncomputable def partsL : List (List Nat × D) := [(cLook, .tup [.str nHand, .str nBox]), (cPut, .tup [.str nBox, .str nHand]), (cSet, .tup [.str nHand, .str nNumber]), (cPlus, .tup [.str nHand, .str nHand]), (cLeap, .tup [.str nHand, .str nLeap]), (cWait, .tup [])]
noncomputable def bnds (nb w : Int) : List (D × D) := [(.str nHand, .tup [.int 0, .int 3]), (.str nBox, .tup [.int 0, .int (nb - 1)]), (.str nNumber, .tup [.int 0, .int (w - 1)]), (.str nLeap, .tup [.int 1, .int 12])]
section
variable {T : Tbl} {S : Hs} {nb w : Int} {s : List Nat} {r : List D} {Q : VK2}
end
noncomputable def nw (i : Int) : List Nat := (toString i : String).toList.map Char.toNat
mutual
noncomputable def wordD : Deed → List (List Nat)
  | .look h b => [cLook, nw h, nw b]
  | .put b h => [cPut, nw b, nw h]
  | .set h n => [cSet, nw h, nw n]
  | .plus g h => [cPlus, nw g, nw h]
  | .leap h n => [cLeap, nw h, nw n]
  | .wait => [cWait]
  | .try_ a b => cTry :: (([40] :: (wordsI a ++ [[41]])) ++ ([40] :: (wordsI b ++ [[41]])))
noncomputable def wordsI : List Deed → List (List Nat)
  | [] => []
  | d :: ds => wordD d ++ wordsI ds
end
noncomputable def wordsW (ds : List Deed) : List (List Nat) := [40] :: (wordsI ds ++ [[41]])
theorem wordsI_append : ∀ a b : List Deed, wordsI (a ++ b) = wordsI a ++ wordsI b
  | [], _ => rfl
  | d :: a, b => by simp [wordsI, wordsI_append a b]
theorem wordsI_one (d : Deed) : wordsI [d] = wordD d := by simp [wordsI]
mutual
theorem word_len : ∀ d : Deed, (wordD d).length ≤ 5 * sizeD d
  | .look _ _ => by show 3 ≤ 5; omega
  | .put _ _ => by show 3 ≤ 5; omega
  | .set _ _ => by show 3 ≤ 5; omega
  | .plus _ _ => by show 3 ≤ 5; omega
  | .leap _ _ => by show 3 ≤ 5; omega
  | .wait => by show 1 ≤ 5; omega
  | .try_ a b => by
    have h1 := words_len a
    have h2 := words_len b
    show (cTry :: (([40] :: (wordsI a ++ [[41]])) ++ ([40] :: (wordsI b ++ [[41]])))).length ≤ 5 * (1 + sizes a + sizes b)
    simp only [List.length_cons, List.length_append, List.length_nil]
    omega
theorem words_len : ∀ ds : List Deed, (wordsI ds).length ≤ 5 * sizes ds
  | [] => Nat.zero_le _
  | d :: ds => by
    have h1 := word_len d
    have h2 := words_len ds
    show (wordD d ++ wordsI ds).length ≤ 5 * (sizeD d + sizes ds)
    rw [List.length_append]; omega
end
noncomputable def figs : List Nat := [48, 49, 50, 51, 52, 53, 54, 55, 56, 57]
noncomputable def nwB (n : Nat) : Bool :=
  let s := nw (n : Int)
  decide (1 ≤ s.length) && decide (s.length ≤ 4) && (decide (s.head? ≠ some 48) || decide (s.length = 1)) && s.all (fun c => decide (c ∈ figs)) && decide (PySem.intText? (⟨s.toArray⟩ : Str) = some (n : Int))
theorem nw_all : ∀ n : Fin 1001, nwB n.val = true := by decide +kernel
structure NwOk (i : Int) : Prop where
  l1 : 1 ≤ (nw i).length
  l4 : (nw i).length ≤ 4
  hd : (nw i).head? ≠ some 48 ∨ (nw i).length = 1
  fg : ∀ c ∈ nw i, c ∈ figs
  rd : PySem.intText? (⟨(nw i).toArray⟩ : Str) = some i
theorem nw_ok {i : Int} (h0 : 0 ≤ i) (h1 : i ≤ 1000) : NwOk i := by
  obtain ⟨n, rfl⟩ := Int.eq_ofNat_of_zero_le h0
  have h := nw_all ⟨n, by omega⟩
  unfold nwB at h
  simp only [Bool.and_eq_true, Bool.or_eq_true, decide_eq_true_eq, List.all_eq_true] at h
  obtain ⟨⟨⟨⟨a, b⟩, c⟩, d⟩, e⟩ := h
  exact ⟨a, b, c, d, e⟩
noncomputable def okW (s : List Nat) : Prop := 32 ∉ s ∧ s.length ≤ 6 ∧ (s.all fun c => decide (c < 1114112)) = true
theorem NwOk.w {i : Int} (h : NwOk i) : okW (nw i) := ⟨fun z => by
  have := h.fg _ z
  revert this; decide, by have := h.l4; omega, List.all_eq_true.mpr fun c hc => decide_eq_true (by
    have h := h.fg c hc
    have : ∀ c ∈ figs, c < 1114112 := by decide
    exact this c h)⟩
mutual
theorem word_ok {nb w : Int} (n6 : nb ≤ 6) (w3 : w ≤ 1000) : ∀ d : Deed, okDeed nb w d → ∀ s ∈ wordD d, okW s
  | .look h b, ⟨a1, a2, a3, a4⟩ => List.forall_mem_cons.mpr ⟨by unfold okW; decide, List.forall_mem_cons.mpr ⟨(nw_ok a1 (by omega)).w, List.forall_mem_cons.mpr ⟨(nw_ok a3 (by omega)).w, List.forall_mem_nil _⟩⟩⟩
  | .put b h, ⟨a1, a2, a3, a4⟩ => List.forall_mem_cons.mpr ⟨by unfold okW; decide, List.forall_mem_cons.mpr ⟨(nw_ok a3 (by omega)).w, List.forall_mem_cons.mpr ⟨(nw_ok a1 (by omega)).w, List.forall_mem_nil _⟩⟩⟩
  | .set h b, ⟨a1, a2, a3, a4⟩ => List.forall_mem_cons.mpr ⟨by unfold okW; decide, List.forall_mem_cons.mpr ⟨(nw_ok a1 (by omega)).w, List.forall_mem_cons.mpr ⟨(nw_ok a3 (by omega)).w, List.forall_mem_nil _⟩⟩⟩
  | .plus h b, ⟨a1, a2, a3, a4⟩ => List.forall_mem_cons.mpr ⟨by unfold okW; decide, List.forall_mem_cons.mpr ⟨(nw_ok a1 (by omega)).w, List.forall_mem_cons.mpr ⟨(nw_ok a3 (by omega)).w, List.forall_mem_nil _⟩⟩⟩
  | .leap h b, ⟨a1, a2, a3, a4⟩ => List.forall_mem_cons.mpr ⟨by unfold okW; decide, List.forall_mem_cons.mpr ⟨(nw_ok a1 (by omega)).w, List.forall_mem_cons.mpr ⟨(nw_ok (by omega) (by omega)).w, List.forall_mem_nil _⟩⟩⟩
  | .wait, _ => List.forall_mem_cons.mpr ⟨by unfold okW; decide, List.forall_mem_nil _⟩
  | .try_ a b, ⟨⟨h1, _⟩, h2, _⟩ => by
    have g1 := words_ok n6 w3 a h1
    have g2 := words_ok n6 w3 b h2
    intro s hs
    have hs : s ∈ cTry :: (([40] :: (wordsI a ++ [[41]])) ++ ([40] :: (wordsI b ++ [[41]]))) := hs
    simp only [List.mem_cons, List.mem_append, List.not_mem_nil, or_false] at hs
    rcases hs with rfl | (rfl | hs | rfl) | rfl | hs | rfl
    · unfold okW; decide
    · unfold okW; decide
    · exact g1 s hs
    · unfold okW; decide
    · unfold okW; decide
    · exact g2 s hs
    · unfold okW; decide
theorem words_ok {nb w : Int} (n6 : nb ≤ 6) (w3 : w ≤ 1000) : ∀ ds : List Deed, okDeeds nb w ds → ∀ s ∈ wordsI ds, okW s
  | [], _ => fun s hs => by cases hs
  | d :: ds, h => fun s hs => by
    rcases List.mem_append.mp (show s ∈ wordD d ++ wordsI ds from hs) with hs | hs
    · exact word_ok n6 w3 d h.1 s hs
    · exact words_ok n6 w3 ds h.2 s hs
end
theorem wordsW_ok {nb w : Int} (n6 : nb ≤ 6) (w3 : w ≤ 1000) {ds : List Deed} (h : okDeeds nb w ds) : ∀ s ∈ wordsW ds, okW s := by
  intro s hs
  have hs : s ∈ [40] :: (wordsI ds ++ [[41]]) := hs
  simp only [List.mem_cons, List.mem_append, List.not_mem_nil, or_false] at hs
  rcases hs with rfl | hs | rfl
  · unfold okW; decide
  · exact words_ok n6 w3 ds h s hs
  · unfold okW; decide
theorem wordsW_len (ds : List Deed) : (wordsW ds).length ≤ 5 * sizes ds + 2 := by
  have := words_len ds
  show ([40] :: (wordsI ds ++ [[41]])).length ≤ _
  simp only [List.length_cons, List.length_append, List.length_nil]
  omega
theorem lens_le : ∀ ws : List (List Nat), (∀ s ∈ ws, okW s) → (ws.map List.length).sum ≤ 6 * ws.length
  | [], _ => Nat.le_refl _
  | s :: ws, h => by
    have h1 := (h s List.mem_cons_self).2.1
    have h2 := lens_le ws fun x hx => h x (List.mem_cons_of_mem _ hx)
    show s.length + (ws.map List.length).sum ≤ 6 * (ws.length + 1)
    omega
theorem joinD_eq (t : List Nat) (ws : List (List Nat)) : joinD t ws = TL.joinL t ws := by
  have e := TL.tl_join (⟨t.toArray⟩ : Str) (ws.map fun z => (⟨z.toArray⟩ : Str))
  unfold joinD
  rw [TL.join_eq]
  show TL.tl _ = _
  rw [e, List.map_map]
  have e2 : ws.map (TL.tl ∘ fun z => (⟨z.toArray⟩ : Str)) = ws := (List.map_congr_left fun z _ => rfl).trans (List.map_id ws)
  rw [e2]
theorem split_words {ws : List (List Nat)} (h : ∀ s ∈ ws, okW s) (hne : ws ≠ []) : splitD (joinD [32] ws) [32] = ws := by
  unfold splitD joinD
  have e := TL.split_join (y := (⟨#[32]⟩ : Str)) (s := 32) (S := []) rfl (by decide +kernel) (parts := ws.map fun z => (⟨z.toArray⟩ : Str)) (by simpa using hne) (fun p hp => by
    obtain ⟨z, hz, rfl⟩ := List.mem_map.mp hp
    exact (h z hz).1)
  show List.map (fun z => z.cps.toList) (Txt.split ⟨((Txt.join ⟨#[32]⟩ (ws.map fun z => ⟨z.toArray⟩)).cps.toList).toArray⟩ ⟨#[32]⟩) = ws
  rw [show (⟨((Txt.join ⟨#[32]⟩ (ws.map fun z => ⟨z.toArray⟩)).cps.toList).toArray⟩ : Str) = Txt.join ⟨#[32]⟩ (ws.map fun z => ⟨z.toArray⟩) by cases Txt.join ⟨#[32]⟩ (ws.map fun z => ⟨z.toArray⟩); rfl, e, List.map_map]
  exact (List.map_congr_left fun z _ => rfl).trans (List.map_id ws)
theorem joinL_len : ∀ ws : List (List Nat), (TL.joinL [32] ws).length ≤ (ws.map List.length).sum + ws.length
  | [] => Nat.le_refl _
  | [p] => by show p.length ≤ p.length + 0 + 1; omega
  | p :: q :: r => by
    have ih := joinL_len (q :: r)
    have e : TL.joinL [32] (p :: q :: r) = p ++ ([32] ++ TL.joinL [32] (q :: r)) := rfl
    rw [e, List.length_append, List.length_append]
    show p.length + (1 + _) ≤ (p.length + ((q :: r).map List.length).sum) + ((q :: r).length + 1)
    omega
theorem joinL_all : ∀ ws : List (List Nat), (∀ s ∈ ws, okW s) → ((TL.joinL [32] ws).all fun c => decide (c < 1114112)) = true
  | [], _ => rfl
  | [p], h => (h p List.mem_cons_self).2.2
  | p :: q :: r, h => by
    have ih := joinL_all (q :: r) fun s hs => h s (List.mem_cons_of_mem _ hs)
    have e : TL.joinL [32] (p :: q :: r) = p ++ ([32] ++ TL.joinL [32] (q :: r)) := rfl
    rw [e, List.all_append, List.all_append, (h p List.mem_cons_self).2.2, ih]; rfl
theorem joinD_len {ws : List (List Nat)} (h : ∀ s ∈ ws, okW s) : (joinD [32] ws).length ≤ 7 * ws.length := by
  have h1 := joinL_len ws
  have h2 := lens_le ws h
  rw [joinD_eq]; omega
theorem joinD_all {ws : List (List Nat)} (h : ∀ s ∈ ws, okW s) : ((joinD [32] ws).all fun c => decide (c < 1114112)) = true := by
  rw [joinD_eq]; exact joinL_all ws h
noncomputable def sml (i : Int) : Prop := 0 ≤ i ∧ i ≤ 1000
structure PlD (d : Deed) (s : List Nat) (is : List Int) : Prop where
  e : encD d = .tup (.str s :: is.map D.int)
  w : wordD d = s :: is.map nw
  n : s ≠ cTry
  v : okW s
  i : ∀ i ∈ is, sml i
  l : is.length ≤ 2
theorem deed_pl {nb w : Int} (n6 : nb ≤ 6) (w3 : w ≤ 1000) (d : Deed) (h : okDeed nb w d) : (∃ a b, d = .try_ a b) ∨ ∃ s is, PlD d s is := by
  have two : ∀ {a b : Int}, sml a → sml b → ∀ i ∈ [a, b], sml i := fun h k => List.forall_mem_cons.mpr ⟨h, List.forall_mem_cons.mpr ⟨k, List.forall_mem_nil _⟩⟩
  cases d with
  | try_ a b => exact .inl ⟨a, b, rfl⟩
  | look a b => obtain ⟨a1, a2, a3, a4⟩ := h; exact .inr ⟨cLook, [a, b], rfl, rfl, by decide, by unfold okW; decide, two ⟨a1, by omega⟩ ⟨a3, by omega⟩, Nat.le_refl _⟩
  | put b a => obtain ⟨a1, a2, a3, a4⟩ := h; exact .inr ⟨cPut, [b, a], rfl, rfl, by decide, by unfold okW; decide, two ⟨a3, by omega⟩ ⟨a1, by omega⟩, Nat.le_refl _⟩
  | set a b => obtain ⟨a1, a2, a3, a4⟩ := h; exact .inr ⟨cSet, [a, b], rfl, rfl, by decide, by unfold okW; decide, two ⟨a1, by omega⟩ ⟨a3, by omega⟩, Nat.le_refl _⟩
  | plus a b => obtain ⟨a1, a2, a3, a4⟩ := h; exact .inr ⟨cPlus, [a, b], rfl, rfl, by decide, by unfold okW; decide, two ⟨a1, by omega⟩ ⟨a3, by omega⟩, Nat.le_refl _⟩
  | leap a b => obtain ⟨a1, a2, a3, a4⟩ := h; exact .inr ⟨cLeap, [a, b], rfl, rfl, by decide, by unfold okW; decide, two ⟨a1, by omega⟩ ⟨by omega, by omega⟩, Nat.le_refl _⟩
  | wait => exact .inr ⟨cWait, [], rfl, rfl, by decide, by unfold okW; decide, (fun i h => by cases h), by decide⟩
theorem okDeed_mem4 {n w : Int} {d : Deed} : ∀ {ds : List Deed}, okDeeds n w ds → d ∈ ds → okDeed n w d
  | e :: ds, h, m => by
    rcases List.mem_cons.mp m with rfl | m
    · exact h.1
    · exact okDeed_mem4 h.2 m
theorem sizeD_mem4 {d : Deed} : ∀ {ds : List Deed}, d ∈ ds → sizeD d ≤ sizes ds
  | e :: ds, h => by
    rcases List.mem_cons.mp h with rfl | h
    · exact Nat.le_add_right _ _
    · exact Nat.le_trans (sizeD_mem4 h) (Nat.le_add_left _ _)
theorem cut_cons1 {α : Type} (x : α) (xs : List α) : cutI (x :: xs) (some 1) none = xs := by
  unfold cutI
  rw [HT.sIx_none]
  have e : HT.sIx (x :: xs).length 0 (some 1) = 1 := by
    have := HT.sIx_nat (x :: xs).length 0 1
    rw [show ((1 : Nat) : Int) = 1 from rfl] at this
    rw [this]
    simp
  rw [e]
  simp
theorem slc1_i {x : D} {xs : List D} {S : Hs} {Q : VK2} (h : Q (.d (.tup xs)) S) : view (.d (.tup (x :: xs))) S fun c => slcC c (some 1) none S Q := by
  show Q (.d (.tup (cutI (x :: xs) (some 1) none))) S
  rw [cut_cons1]; exact h
theorem strs_ok {T : Tbl} {c : Nat → List Vx → Hs → VK2 → Prop} {σ : Sl} {S : Hs} {is : List Int} {K : List D → Hs → Prop} (j : Nat) (hj : j < σ.length) (h : ∀ i ∈ is, sml i) (l : is.length ≤ 2) (k : K ((is.map nw).map D.str) S) :
    compL (.nm j) (fun _ _ => True) (fun σ' S' K => wpE T c (.o1 .str (.v j)) σ' S' (one1 fun y S2 => bx y S2 K)) (fun σ' S' K => wpE T c (.b true) σ' S' (one1 (tstK K))) σ (is.map D.int) [] S K := by
  refine compL_fm D.int (fun i => some (.str (nw i))) trivial is [] (fun i hi P1 P2 g1 g2 => ?_) (by rw [sizeLine_eq]; simp; omega) ?_
  · refine Br.tt ⟨_, List.getElem?_set_self hj, ⟨Nat.lt_of_le_of_lt (Nat.log2_le_self _) (by have := h i hi; unfold sml at this; omega), g1 _ rfl⟩⟩
  · rw [List.nil_append, List.filterMap_eq_map', List.map_map] at *
    exact k
theorem mem_app {α : Type} {x : α} {a b : List α} : x ∈ a ++ x :: b := List.mem_append.mpr (.inr List.mem_cons_self)
theorem words_of_ok {T : Tbl} (hT : T.fn 371 = some f_words_of) {nb w : Int} (n6 : nb ≤ 6) (w3 : w ≤ 1000) : ∀ (m : Nat) (ds : List Deed) (S : Hs) (Q : VK2), deps ds < m → okDeeds nb w ds → sizes ds ≤ 40 → Q (.vl ((wordsW ds).map D.str)) S → cal T m 371 [.d (.tup (encs ds))] S Q
  | 0, ds, S, Q, h, _, _, _ => by omega
  | m + 1, ds, S, Q, h, ok, sz, q => by
    refine ⟨_, hT, rfl, rfl, ?_⟩
    have ih := words_of_ok hT n6 w3 m
    generalize cal T m = c at ih ⊢
    refine ⟨_, rfl, Nat.le_of_ble_eq_true rfl, ⟨_, rfl, ?_⟩⟩
    have wl : ∀ (a b : List Deed), ds = a ++ b → (wordsI a).length ≤ 200 := fun a b e => by
      have h1 := words_len a
      have h2 : sizes ds = sizes a + sizes b := by rw [e, sizes_append]
      omega
    refine forL_ind (fun rest σ S' => ∃ a b s2 s3, ds = a ++ b ∧ rest = encs b ∧ S' = S ∧ σ = [some (.d (.tup (encs ds))), some (.vl (([40] :: wordsI a).map D.str)), s2, s3]) (fun _ _ _ _ => trivial) ?_ ?_ _ _ _ ⟨[], ds, _, _, rfl, rfl, rfl, rfl⟩
    · rintro σ S' ⟨a, b, s2, s3, e, eb, rfl, rfl⟩
      cases b with
      | cons x b => cases eb
      | nil =>
        rw [List.append_nil] at e
        subst e
        have := wl ds [] (by simp)
        refine ⟨_, rfl, ⟨_, rfl, Nat.le_of_ble_eq_true rfl, (by show (([40] :: wordsI ds).map D.str).length + 1 ≤ sizeLine; rw [List.length_map, sizeLine_eq]; simp only [List.length_cons]; omega), ?_⟩⟩
        show Q (.vl (([40] :: wordsI ds).map D.str ++ [D.str [41]])) S'
        rw [show ([40] :: wordsI ds).map D.str ++ [D.str [41]] = (wordsW ds).map D.str by show _ = ([40] :: (wordsI ds ++ [[41]])).map D.str; simp]
        exact q
    · rintro x rest kk σ S' hk ⟨a, b, s2, s3, e, eb, rfl, rfl⟩
      cases b with
      | nil => cases eb
      | cons d b =>
        cases eb
        have wa := wl a (d :: b) e
        have hd : d ∈ ds := by rw [e]; exact mem_app
        have okd := okDeed_mem4 ok hd
        have wad := wl (a ++ [d]) b (by rw [e]; simp)
        rw [wordsI_append, wordsI_one, List.length_append] at wad
        rcases deed_pl n6 w3 d okd with ⟨u, v, rfl⟩ | ⟨s, is, P⟩
        · obtain ⟨⟨oku, _⟩, okv, _⟩ := okd
          have hdp : 1 + max (deps u) (deps v) ≤ deps ds := deps_mem hd
          have hsz : 1 + sizes u + sizes v ≤ sizes ds := sizeD_mem4 hd
          have wlen : (([40] :: wordsI a).map D.str).length ≤ 201 := by rw [List.length_map, List.length_cons]; omega
          have lu : ((wordsW u).map D.str).length ≤ 202 := by rw [List.length_map]; have := wordsW_len u; omega
          have lv : ((wordsW v).map D.str).length ≤ 202 := by rw [List.length_map]; have := wordsW_len v; omega
          refine ⟨_, rfl, ⟨_, rfl, ?_⟩⟩
          refine ⟨_, rfl, ?_⟩
          refine ⟨(by rw [sizeLine_eq]; omega), ?_⟩
          refine ⟨_, rfl, ⟨_, rfl, ⟨rfl, rfl, Br.tt ?_⟩⟩⟩
          refine ⟨_, rfl, ⟨_, rfl, ⟨_, rfl, ih u S' _ (by omega) oku (by omega) ?_⟩⟩⟩
          refine ⟨_, rfl, ⟨_, rfl, ih v S' _ (by omega) okv (by omega) ?_⟩⟩
          refine ⟨(by show ((wordsW u).map D.str).length + ((wordsW v).map D.str).length ≤ sizeLine; rw [sizeLine_eq]; omega), ?_⟩
          have key : ([40] :: wordsI a).map D.str ++ [D.str cTry] ++ ((wordsW u).map D.str ++ (wordsW v).map D.str) = ([40] :: wordsI (a ++ [.try_ u v])).map D.str := by
            rw [wordsI_append, wordsI_one]
            show _ = ([40] :: (wordsI a ++ (cTry :: (wordsW u ++ wordsW v)))).map D.str
            simp
          refine ⟨_, rfl, ?_⟩
          refine ⟨(by rw [List.length_append, List.length_append, sizeLine_eq]; show _ + 1 + _ ≤ _; omega), hk _ _ ⟨a ++ [.try_ u v], b, some (.d (encD (.try_ u v))), s3, by rw [e]; simp, rfl, rfl, ?_⟩⟩
          rw [← key]
          rfl
        · have ew := P.w
          have ee := P.e
          rw [ee]
          have wlen : (([40] :: wordsI a).map D.str).length ≤ 201 := by rw [List.length_map, List.length_cons]; omega
          refine ⟨_, rfl, ⟨_, rfl, ?_⟩⟩
          refine ⟨_, rfl, ?_⟩
          refine ⟨(by rw [sizeLine_eq]; omega), ?_⟩
          have ps : pln (.str s) = true := P.v.2.2
          refine ⟨_, rfl, ⟨_, rfl, ⟨ps, rfl, ?_⟩⟩⟩
          show Br (decide (s = cTry)) _ _
          refine Br.eF (decide_eq_false P.n) ?_
          refine ⟨_, rfl, ?_⟩
          refine ⟨_, rfl, ⟨_, rfl, ⟨_, rfl, ?_⟩⟩⟩
          refine slc1_i ?_
          refine strs_ok 3 (show 3 < 4 by decide) P.i P.l ?_
          have key : ([40] :: wordsI a).map D.str ++ [D.str s] ++ (is.map nw).map D.str = ([40] :: wordsI (a ++ [d])).map D.str := by rw [wordsI_append, wordsI_one, ew]; simp
          have ilen : ((is.map nw).map D.str).length ≤ 2 := by rw [List.length_map, List.length_map]; exact P.l
          refine ⟨_, rfl, ?_⟩
          refine ⟨(by rw [List.length_append, sizeLine_eq]; show _ + 1 + _ ≤ _; omega), hk _ _ ⟨a ++ [d], b, some (.d (.tup (.str s :: is.map D.int))), s3, by rw [e]; simp, rfl, rfl, ?_⟩⟩
          rw [← key]
          rfl
theorem law_words_ok {T : Tbl} (hT : T.fn 381 = some f_law_words) {nb w : Int} (n6 : nb ≤ 6) (w3 : w ≤ 1000) : ∀ (m : Nat) (ds : List Deed) (S : Hs) (Q : VK2), deps ds < m → okDeeds nb w ds → sizes ds ≤ 40 → Q (.vl ((wordsW ds).map D.str)) S → cal T m 381 [.d (.tup (encs ds))] S Q
  | 0, ds, S, Q, h, _, _, _ => by omega
  | m + 1, ds, S, Q, h, ok, sz, q => by
    refine ⟨_, hT, rfl, rfl, ?_⟩
    have ih := law_words_ok hT n6 w3 m
    generalize cal T m = c at ih ⊢
    refine ⟨_, rfl, Nat.le_of_ble_eq_true rfl, ⟨_, rfl, ?_⟩⟩
    have wl : ∀ (a b : List Deed), ds = a ++ b → (wordsI a).length ≤ 200 := fun a b e => by
      have h1 := words_len a
      have h2 : sizes ds = sizes a + sizes b := by rw [e, sizes_append]
      omega
    refine forL_ind (fun rest σ S' => ∃ a b s2 s3, ds = a ++ b ∧ rest = encs b ∧ S' = S ∧ σ = [some (.d (.tup (encs ds))), some (.vl (([40] :: wordsI a).map D.str)), s2, s3]) (fun _ _ _ _ => trivial) ?_ ?_ _ _ _ ⟨[], ds, _, _, rfl, rfl, rfl, rfl⟩
    · rintro σ S' ⟨a, b, s2, s3, e, eb, rfl, rfl⟩
      cases b with
      | cons x b => cases eb
      | nil =>
        rw [List.append_nil] at e
        subst e
        have := wl ds [] (by simp)
        refine ⟨_, rfl, ⟨_, rfl, Nat.le_of_ble_eq_true rfl, (by show (([40] :: wordsI ds).map D.str).length + 1 ≤ sizeLine; rw [List.length_map, sizeLine_eq]; simp only [List.length_cons]; omega), ?_⟩⟩
        show Q (.vl (([40] :: wordsI ds).map D.str ++ [D.str [41]])) S'
        rw [show ([40] :: wordsI ds).map D.str ++ [D.str [41]] = (wordsW ds).map D.str by show _ = ([40] :: (wordsI ds ++ [[41]])).map D.str; simp]
        exact q
    · rintro x rest kk σ S' hk ⟨a, b, s2, s3, e, eb, rfl, rfl⟩
      cases b with
      | nil => cases eb
      | cons d b =>
        cases eb
        have wa := wl a (d :: b) e
        have hd : d ∈ ds := by rw [e]; exact mem_app
        have okd := okDeed_mem4 ok hd
        have wad := wl (a ++ [d]) b (by rw [e]; simp)
        rw [wordsI_append, wordsI_one, List.length_append] at wad
        rcases deed_pl n6 w3 d okd with ⟨u, v, rfl⟩ | ⟨s, is, P⟩
        · obtain ⟨⟨oku, _⟩, okv, _⟩ := okd
          have hdp : 1 + max (deps u) (deps v) ≤ deps ds := deps_mem hd
          have hsz : 1 + sizes u + sizes v ≤ sizes ds := sizeD_mem4 hd
          have wlen : (([40] :: wordsI a).map D.str).length ≤ 201 := by rw [List.length_map, List.length_cons]; omega
          have lu : ((wordsW u).map D.str).length ≤ 202 := by rw [List.length_map]; have := wordsW_len u; omega
          have lv : ((wordsW v).map D.str).length ≤ 202 := by rw [List.length_map]; have := wordsW_len v; omega
          refine ⟨_, rfl, ⟨_, rfl, ⟨rfl, rfl, Br.tt ?_⟩⟩⟩
          refine ⟨_, rfl, ⟨_, rfl, Nat.le_of_ble_eq_true rfl, (by show (([40] :: wordsI a).map D.str).length + 1 ≤ sizeLine; rw [sizeLine_eq]; omega), ?_⟩⟩
          refine ⟨_, rfl, ⟨_, rfl, ih u S' _ (by omega) oku (by omega) ?_⟩⟩
          refine ⟨(by show (([40] :: wordsI a).map D.str ++ [D.str cTry]).length + ((wordsW u).map D.str).length ≤ sizeLine; rw [List.length_append, sizeLine_eq]; show _ + 1 + _ ≤ _; omega), ?_⟩
          refine ⟨_, rfl, ⟨_, rfl, ih v S' _ (by omega) okv (by omega) ?_⟩⟩
          refine ⟨(by show (([40] :: wordsI a).map D.str ++ [D.str cTry] ++ (wordsW u).map D.str).length + ((wordsW v).map D.str).length ≤ sizeLine; rw [List.length_append, List.length_append, sizeLine_eq]; show _ + 1 + _ + _ ≤ _; omega), ?_⟩
          have key : ([40] :: wordsI a).map D.str ++ [D.str cTry] ++ (wordsW u).map D.str ++ (wordsW v).map D.str = ([40] :: wordsI (a ++ [.try_ u v])).map D.str := by
            rw [wordsI_append, wordsI_one]
            show _ = ([40] :: (wordsI a ++ (cTry :: (wordsW u ++ wordsW v)))).map D.str
            simp
          refine hk _ _ ⟨a ++ [.try_ u v], b, some (.d (encD (.try_ u v))), s3, by rw [e]; simp, rfl, rfl, ?_⟩
          rw [← key]
          rfl
        · have ew := P.w
          have ee := P.e
          rw [ee]
          have wlen : (([40] :: wordsI a).map D.str).length ≤ 201 := by rw [List.length_map, List.length_cons]; omega
          have ps : pln (.str s) = true := P.v.2.2
          refine ⟨_, rfl, ⟨_, rfl, ⟨ps, rfl, ?_⟩⟩⟩
          show Br (decide (s = cTry)) _ _
          refine Br.eF (decide_eq_false P.n) ?_
          refine ⟨_, rfl, ⟨_, rfl, ⟨_, rfl, ?_⟩⟩⟩
          refine ⟨_, rfl, Nat.le_of_ble_eq_true rfl, (by show (([40] :: wordsI a).map D.str).length + 1 ≤ sizeLine; rw [sizeLine_eq]; omega), ?_⟩
          refine ⟨_, rfl, ⟨_, rfl, ⟨_, rfl, ?_⟩⟩⟩
          refine slc1_i ?_
          refine strs_ok 3 (show 3 < 4 by decide) P.i P.l ?_
          have key : ([40] :: wordsI a).map D.str ++ [D.str s] ++ (is.map nw).map D.str = ([40] :: wordsI (a ++ [d])).map D.str := by rw [wordsI_append, wordsI_one, ew]; simp
          have ilen : ((is.map nw).map D.str).length ≤ 2 := by rw [List.length_map, List.length_map]; exact P.l
          refine ⟨(by show (([40] :: wordsI a).map D.str ++ [D.str s]).length + _ ≤ sizeLine; rw [List.length_append, sizeLine_eq]; show _ + 1 + _ ≤ _; omega), ?_⟩
          refine hk _ _ ⟨a ++ [d], b, some (.d (.tup (.str s :: is.map D.int))), s3, by rw [e]; simp, rfl, rfl, ?_⟩
          rw [← key]
          rfl
theorem text_ok {T : Tbl} (hW : T.fn 371 = some f_words_of) (hT : T.fn 372 = some f_dealing_text) {nb w : Int} (n6 : nb ≤ 6) (w3 : w ≤ 1000) (m : Nat) {ds : List Deed} {S : Hs} {Q : VK2} (hd : deps ds < m) (ok : okDeeds nb w ds) (sz : sizes ds ≤ 40)
    (q : Q (.d (.str (joinD [32] (wordsW ds)))) S) : cal T (m + 1) 372 [.d (.tup (encs ds))] S Q := by
  refine ⟨_, hT, rfl, rfl, ?_⟩
  have h := words_of_ok hW n6 w3 m ds S
  generalize cal T m = c at h ⊢
  refine ⟨trivial, ⟨_, rfl, h _ hd ok sz ?_⟩⟩
  have wk := wordsW_ok n6 w3 ok
  have l1 := wordsW_len ds
  have l2 := lens_le _ wk
  exact ⟨_, _, rfl, rfl, by show _ + _ * 1 ≤ _; omega, q⟩
structure RdT (T : Tbl) : Prop where
  h17 : T.fn 17 = some f_bounds_of
  h373 : T.fn 373 = some f_figures_number
  h374 : T.fn 374 = some f_Reader_init
  h435 : T.fn 435 = some f_Reader_word_2
  h436 : T.fn 436 = some f_Reader_number_2
  h437 : T.fn 437 = some f_Reader_bracket_2
  h438 : T.fn 438 = some f_Reader_deed_2
  h439 : T.fn 439 = some f_Reader_whole_2
  h440 : T.fn 440 = some f_read_dealing_2
  k435 : T.fcls 435 = 13
  k436 : T.fcls 436 = 13
  k437 : T.fcls 437 = 13
  k438 : T.fcls 438 = 13
  k439 : T.fcls 439 = 13
  ci : T.cini 13 = 374
  g4 : T.glob 4 = .d (.int 3)
  g5 : T.glob 5 = .d (.int 12)
  g6 : T.glob 6 = .d (.int 12)
  g7 : T.glob 7 = .d (.int 40)
  g8 : T.glob 8 = .d (.int 3)
  g21 : T.glob 21 = .d (.str figs)
  g22 : T.glob 22 = .d (.int 4)
  kd : T.kd 9 = partsL
noncomputable abbrev rdO (b l : Addr) (at_ many : Int) : O := .ins 13 [.ref b, .ref l, .int at_, .int many]
structure RdAt (S : Hs) (a b l : Addr) (nb w : Int) (ws : List (List Nat)) : Prop where
  hb : S b = some (.dic (bnds nb w))
  hl : S l = some (.lst (ws.map D.str))
  nb : b ≠ a
  nl : l ≠ a
theorem RdAt.b' {S : Hs} {a b l : Addr} {nb w : Int} {ws : List (List Nat)} {o : O} (h : RdAt S a b l nb w ws) : su S a o b = some (.dic (bnds nb w)) := by rw [su_ne h.nb]; exact h.hb
theorem RdAt.l' {S : Hs} {a b l : Addr} {nb w : Int} {ws : List (List Nat)} {o : O} (h : RdAt S a b l nb w ws) : su S a o l = some (.lst (ws.map D.str)) := by rw [su_ne h.nl]; exact h.hl
theorem len_str {s : List Nat} {S : Hs} {Q : VK2} (h : s.length ≤ 6) (q : Q (.d (.int (s.length : Int))) S) : op1D .len (.d (.str s)) S Q := by
  show ∃ n, (if s.length ≤ sizeLine then some s.length else none) = some n ∧ _
  exact ⟨s.length, if_pos (by rw [sizeLine_eq]; omega), q⟩
theorem figures_ok {T : Tbl} (E : RdT T) (n : Nat) {S : Hs} {i : Int} {Q : VK2} (h : NwOk i) (q : Q (.d (.int i)) S) : cal T (n + 1) 373 [.d (.str (nw i))] S Q := by
  refine ⟨_, E.h373, rfl, rfl, ?_⟩
  generalize cal T n = c
  have h4 := h.l4
  have h1 := h.l1
  have m22 : ∀ (i : Int) (Q : VK2) (S : Hs), Q (.d (.bl (decide (i ≤ 4)))) S → op2D .le (.d (.int i)) (T.glob 22) S Q := fun i Q S k => by rw [E.g22]; exact k
  have nd : pln (.str (nw i)) = true := h.w.2.2
  have n1 : nw i ≠ [] := fun e => by rw [e] at h1; exact absurd h1 (by decide)
  obtain ⟨c0, cr, e0⟩ : ∃ c0 cr, nw i = c0 :: cr := by
    cases e : nw i with
    | nil => exact (n1 e).elim
    | cons a b => exact ⟨a, b, rfl⟩
  refine ⟨_, rfl, ?_⟩
  refine one1_i (len_str (s := nw i) (by omega) ?_)
  refine Br.eT (decide_eq_true (by omega)) ?_
  refine m22 _ _ _ ?_
  rw [decide_eq_true (show ((nw i).length : Int) ≤ 4 by omega)]
  refine Br.ff ?_
  refine ⟨_, rfl, ⟨(by show (nw i).length ≤ sizeLine; rw [sizeLine_eq]; omega), c0, (by show getI (nw i) 0 = some c0; rw [e0]; rfl), ⟨(show pln (.str [c0]) = true by
    have := h.fg c0 (by rw [e0]; exact List.mem_cons_self)
    revert this
    have : ∀ c ∈ figs, pln (.str [c]) = true := by decide
    exact this c0), rfl, ?_⟩⟩⟩
  show Br (decide ([c0] = [48])) _ _
  have fin : ∀ (nx : SK2), forL (.nm 1) (fun _ _ => True) (fun k σ' S' => wpS T c (.iff (.o2 .nmem (.v 1) (.g 21)) (.ret .n) .skip) σ' S' k Q (fun σ' S' => wpS T c (.ret (.o1 .int (.v 0))) σ' S' (fun _ S' => Q (.d .non) S') Q (fun _ _ => False) (fun _ _ => False)) k)
      (fun σ' S' => wpS T c (.ret (.o1 .int (.v 0))) σ' S' (fun _ S' => Q (.d .non) S') Q (fun _ _ => False) (fun _ _ => False)) ((nw i).map fun c => D.str [c]) [some (.d (.str (nw i))), none] S := by
    intro nx
    refine forL_ind (fun rest σ S' => ∃ s1, S' = S ∧ σ = [some (.d (.str (nw i))), s1] ∧ ∃ cs, rest = cs.map (fun c => D.str [c]) ∧ ∀ c ∈ cs, c ∈ figs) (fun _ _ _ _ => trivial) ?_ ?_ _ _ _ ⟨_, rfl, rfl, nw i, rfl, h.fg⟩
    · rintro σ S' ⟨s1, rfl, rfl, _⟩
      exact ⟨_, rfl, ⟨i, ⟨h.rd, by omega⟩, q⟩⟩
    · rintro x rest kk σ S' hk ⟨s1, rfl, rfl, cs, ec, hf⟩
      cases cs with
      | nil => cases ec
      | cons ch cs =>
        cases ec
        refine ⟨_, rfl, ?_⟩
        have mem : ∀ (K : Bool → Prop), K (decide (ch ∈ figs)) → memD (.d (.str [ch])) (T.glob 21) S' K := fun K k => by rw [E.g21]; exact k
        refine mem _ ?_
        rw [decide_eq_true (hf ch List.mem_cons_self)]
        exact Br.ff (hk _ _ ⟨_, rfl, rfl, cs, rfl, fun c hc => hf c (List.mem_cons_of_mem _ hc)⟩)
  by_cases ez : c0 = 48
  · have l1 : (nw i).length = 1 := by
      rcases h.hd with g | g
      · exact absurd (by rw [e0, ez]; rfl) g
      · exact g
    refine Br.eT (decide_eq_true (by rw [ez])) ?_
    refine ⟨_, rfl, ?_⟩
    refine one1_i (len_str (s := nw i) (by omega) ?_)
    refine Br.eF (decide_eq_false (by omega)) ?_
    exact ⟨_, rfl, _, rfl, fin (fun _ _ => True)⟩
  · refine Br.eF (decide_eq_false (fun z => ez (by cases z; rfl))) ?_
    refine Br.ff ?_
    exact ⟨_, rfl, _, rfl, fin (fun _ _ => True)⟩
section
variable {T : Tbl} {S : Hs} {a b l : Addr} {nb w : Int} {ws : List (List Nat)} {Q : VK2}
theorem getI_at {pre suf : List (List Nat)} {s : List Nat} : getI ((pre ++ s :: suf).map D.str) ((pre.length : Nat) : Int) = some (.str s) := by
  show ((pre ++ s :: suf).map D.str)[pre.length]? = _
  rw [List.getElem?_map, List.getElem?_append_right (Nat.le_refl _), Nat.sub_self]
  rfl
theorem word_at (E : RdT T) (n : Nat) {many : Int} {pre suf : List (List Nat)} {s : List Nat} (r : RdAt S a b l nb w ws) (e : ws = pre ++ s :: suf) (q : Q (.d (.str s)) (su S a (rdO b l (pre.length : Nat) many))) :
    cal T (n + 1) 435 [.d (.ref a)] (su S a (rdO b l (pre.length : Nat) many)) Q := by
  refine ⟨_, E.h435, rfl, rfl, ?_⟩
  generalize cal T n = c
  refine ⟨_, rfl, ⟨_, _, rfl, su_same, ⟨_, rfl, ?_⟩⟩⟩
  refine ⟨_, rfl, ⟨_, _, rfl, su_same, ⟨_, rfl, ?_⟩⟩⟩
  refine ⟨_, r.l', ⟨_, rfl, ⟨rfl, rfl, Br.eF (decide_eq_false ?_) ?_⟩⟩⟩
  · rw [List.length_map, e, List.length_append, List.length_cons]; omega
  refine ⟨_, rfl, ⟨_, _, rfl, su_same, ⟨_, rfl, ?_⟩⟩⟩
  refine ⟨_, rfl, ⟨_, _, rfl, su_same, ⟨_, rfl, ?_⟩⟩⟩
  refine ⟨_, r.l', ?_⟩
  exact ⟨.str s, by rw [e]; exact getI_at, q⟩
theorem number_at (E : RdT T) (n : Nat) {many : Int} {pre suf : List (List Nat)} {i lo hi : Int} {x : List Nat} (r : RdAt S a b l nb w ws) (e : ws = pre ++ nw i :: suf) (hi' : NwOk i) (k : dget (bnds nb w) (.str x) = some (.tup [.int lo, .int hi])) (kx : keyD (.str x) = true)
    (h1 : lo ≤ i) (h2 : i ≤ hi) (q : Q (.d (.int i)) (su S a (rdO b l ((pre.length + 1 : Nat) : Int) many))) :
    cal T (n + 2) 436 [.d (.ref a), .d (.str x)] (su S a (rdO b l (pre.length : Nat) many)) Q := by
  refine ⟨_, E.h436, rfl, rfl, ?_⟩
  have hw := fun Q => word_at E n (S := S) (a := a) (b := b) (l := l) (nb := nb) (w := w) (ws := ws) (Q := Q) (many := many) r e
  have hf := fun S Q => figures_ok E n (S := S) (Q := Q) hi'
  generalize cal T (n + 1) = c at hw hf ⊢
  refine ⟨_, rfl, ⟨_, _, rfl, (by rw [E.k435]; exact su_same), ?_⟩⟩
  refine hw _ ?_
  refine hf _ _ ?_
  refine ⟨_, rfl, ⟨_, rfl, Br.ff ?_⟩⟩
  refine ⟨_, rfl, ⟨_, _, rfl, su_same, ⟨_, rfl, ?_⟩⟩⟩
  refine ⟨_, rfl, ⟨_, r.b', ⟨kx, _, k, ?_⟩⟩⟩
  refine ⟨_, rfl, ⟨_, rfl, ?_⟩⟩
  refine Br.eT (decide_eq_true h1) ?_
  refine ⟨_, rfl, ⟨_, _, rfl, su_same, ⟨_, rfl, ?_⟩⟩⟩
  refine ⟨_, rfl, ⟨_, r.b', ⟨kx, _, k, ?_⟩⟩⟩
  refine ⟨_, rfl, ?_⟩
  show Br (!decide (i ≤ hi)) _ _
  refine Br.eF (by rw [decide_eq_true h2]; rfl) ?_
  refine ⟨_, rfl, ⟨_, _, rfl, su_same, ⟨_, rfl, ?_⟩⟩⟩
  refine ⟨_, rfl, ⟨_, _, rfl, su_same, Nat.le_of_ble_eq_true rfl, ?_⟩⟩
  refine ⟨_, rfl, ?_⟩
  rw [su_su]
  exact q
theorem bracket_at (E : RdT T) (n : Nat) {many : Int} {pre suf : List (List Nat)} (r : RdAt S a b l nb w ws) (e : ws = pre ++ [40] :: suf) (q : Q (.d .non) (su S a (rdO b l ((pre.length + 1 : Nat) : Int) many))) :
    cal T (n + 2) 437 [.d (.ref a)] (su S a (rdO b l (pre.length : Nat) many)) Q := by
  refine ⟨_, E.h437, rfl, rfl, ?_⟩
  have hw := fun Q => word_at E n (S := S) (a := a) (b := b) (l := l) (nb := nb) (w := w) (ws := ws) (Q := Q) (many := many) r e
  generalize cal T (n + 1) = c at hw ⊢
  refine ⟨_, rfl, ⟨_, _, rfl, (by rw [E.k435]; exact su_same), ?_⟩⟩
  refine hw _ ?_
  refine ⟨rfl, rfl, Br.ff ?_⟩
  refine ⟨_, rfl, ⟨_, _, rfl, su_same, ⟨_, rfl, ?_⟩⟩⟩
  refine ⟨_, rfl, ⟨_, _, rfl, su_same, Nat.le_of_ble_eq_true rfl, ?_⟩⟩
  rw [su_su]
  exact q
end
noncomputable def Srt (nb w : Int) : List (List Nat) → List Int → Prop
  | [], [] => True
  | x :: ss, i :: is => (∃ lo hi, dget (bnds nb w) (.str x) = some (.tup [.int lo, .int hi]) ∧ keyD (.str x) = true ∧ lo ≤ i ∧ i ≤ hi) ∧ Srt nb w ss is
  | _, _ => False
structure RdD (nb w : Int) (d : Deed) (s : List Nat) (is : List Int) (ss : List (List Nat)) : Prop where
  p : PlD d s is
  k : partsL.lookup s = some (.tup (ss.map D.str))
  r : Srt nb w ss is
  z : s ≠ [41]
  d1 : sizeD d = 1
theorem deed_rd {nb w : Int} (n6 : nb ≤ 6) (w3 : w ≤ 1000) (d : Deed) (h : okDeed nb w d) : (∃ a b, d = .try_ a b) ∨ ∃ s is ss, RdD nb w d s is ss := by
  have two : ∀ {a b : Int}, sml a → sml b → ∀ i ∈ [a, b], sml i := fun h k => List.forall_mem_cons.mpr ⟨h, List.forall_mem_cons.mpr ⟨k, List.forall_mem_nil _⟩⟩
  have bx : ∀ {b : Int}, 0 ≤ b → b < nb → ∃ lo hi, dget (bnds nb w) (.str nBox) = some (.tup [.int lo, .int hi]) ∧ keyD (.str nBox) = true ∧ lo ≤ b ∧ b ≤ hi := fun h1 h2 => ⟨0, nb - 1, rfl, rfl, h1, by omega⟩
  have hx : ∀ {b : Int}, 0 ≤ b → b < 4 → ∃ lo hi, dget (bnds nb w) (.str nHand) = some (.tup [.int lo, .int hi]) ∧ keyD (.str nHand) = true ∧ lo ≤ b ∧ b ≤ hi := fun h1 h2 => ⟨0, 3, rfl, rfl, h1, by omega⟩
  cases d with
  | try_ a b => exact .inl ⟨a, b, rfl⟩
  | look a b => obtain ⟨a1, a2, a3, a4⟩ := h; exact .inr ⟨cLook, [a, b], [nHand, nBox], ⟨rfl, rfl, by decide, by unfold okW; decide, two ⟨a1, by omega⟩ ⟨a3, by omega⟩, Nat.le_refl _⟩, rfl, ⟨hx a1 a2, bx a3 a4, trivial⟩, by decide, rfl⟩
  | put b a => obtain ⟨a1, a2, a3, a4⟩ := h; exact .inr ⟨cPut, [b, a], [nBox, nHand], ⟨rfl, rfl, by decide, by unfold okW; decide, two ⟨a3, by omega⟩ ⟨a1, by omega⟩, Nat.le_refl _⟩, rfl, ⟨bx a3 a4, hx a1 a2, trivial⟩, by decide, rfl⟩
  | set a b => obtain ⟨a1, a2, a3, a4⟩ := h; exact .inr ⟨cSet, [a, b], [nHand, nNumber], ⟨rfl, rfl, by decide, by unfold okW; decide, two ⟨a1, by omega⟩ ⟨a3, by omega⟩, Nat.le_refl _⟩, rfl, ⟨hx a1 a2, ⟨0, w - 1, rfl, rfl, a3, by omega⟩, trivial⟩, by decide, rfl⟩
  | plus a b => obtain ⟨a1, a2, a3, a4⟩ := h; exact .inr ⟨cPlus, [a, b], [nHand, nHand], ⟨rfl, rfl, by decide, by unfold okW; decide, two ⟨a1, by omega⟩ ⟨a3, by omega⟩, Nat.le_refl _⟩, rfl, ⟨hx a1 a2, hx a3 a4, trivial⟩, by decide, rfl⟩
  | leap a b => obtain ⟨a1, a2, a3, a4⟩ := h; exact .inr ⟨cLeap, [a, b], [nHand, nLeap], ⟨rfl, rfl, by decide, by unfold okW; decide, two ⟨a1, by omega⟩ ⟨by omega, by omega⟩, Nat.le_refl _⟩, rfl, ⟨hx a1 a2, ⟨1, 12, rfl, rfl, a3, a4⟩, trivial⟩, by decide, rfl⟩
  | wait => exact .inr ⟨cWait, [], [], ⟨rfl, rfl, by decide, by unfold okW; decide, (fun i h => by cases h), by decide⟩, rfl, trivial, by decide, rfl⟩
theorem Srt.len {nb w : Int} : ∀ {ss : List (List Nat)} {is : List Int}, Srt nb w ss is → ss.length = is.length
  | [], [], _ => rfl
  | _ :: _, _ :: _, h => by simp [Srt.len h.2]
  | [], _ :: _, h => h.elim
  | _ :: _, [], h => h.elim
theorem nums_ok {T : Tbl} {c : Nat → List Vx → Hs → VK2 → Prop} {S : Hs} {a b l : Addr} {nb w many : Int} {ws : List (List Nat)} {σ : Sl} (k436 : T.fcls 436 = 13)
    (h436 : ∀ (pre suf : List (List Nat)) (i lo hi : Int) (x : List Nat) (Q : VK2), ws = pre ++ nw i :: suf → NwOk i → dget (bnds nb w) (.str x) = some (.tup [.int lo, .int hi]) → keyD (.str x) = true → lo ≤ i → i ≤ hi → Q (.d (.int i)) (su S a (rdO b l ((pre.length + 1 : Nat) : Int) many)) →
      c 436 [.d (.ref a), .d (.str x)] (su S a (rdO b l (pre.length : Nat) many)) Q) (h0 : σ[0]? = some (some (.d (.ref a)))) (h4 : 4 < σ.length) :
    ∀ (ss : List (List Nat)) (is : List Int) (pre suf : List (List Nat)) (acc : List D) (K : List D → Hs → Prop), Srt nb w ss is → (∀ i ∈ is, sml i) → ws = pre ++ (is.map nw ++ suf) → acc.length + is.length ≤ 10 → K (acc ++ is.map D.int) (su S a (rdO b l ((pre.length + is.length : Nat) : Int) many)) →
      compL (.nm 4) (fun _ _ => True) (fun σ' S' K => wpE T c (.meth 436 (.v 0) (.cons (.v 4) .nil)) σ' S' (one1 fun y S2 => bx y S2 K)) (fun σ' S' K => wpE T c (.b true) σ' S' (one1 (tstK K))) σ (ss.map D.str) acc (su S a (rdO b l (pre.length : Nat) many)) K
  | [], [], pre, suf, acc, K, _, _, _, _, k => by
    refine ⟨trivial, ?_⟩
    have e : pre.length + ([] : List Int).length = pre.length := rfl
    rw [e] at k
    simpa using k
  | x :: ss, i :: is, pre, suf, acc, K, h, hs, e, hl, k => by
    obtain ⟨⟨lo, hi, h1, h2, h3, h5⟩, ht⟩ := h
    have hl : acc.length + (is.length + 1) ≤ 10 := hl
    have si := hs i List.mem_cons_self
    refine ⟨trivial, Br.tt ?_⟩
    refine ⟨_, (by rw [List.getElem?_set_ne (by decide)]; exact h0), ⟨_, _, rfl, (by rw [k436]; exact su_same), ⟨_, List.getElem?_set_self h4, ?_⟩⟩⟩
    refine h436 pre (is.map nw ++ suf) i lo hi x _ (by rw [e]; rfl) (nw_ok si.1 si.2) h1 h2 h3 h5 ?_
    refine ⟨by rw [sizeLine_eq]; omega, ?_⟩
    have ep : (pre ++ [nw i]).length = pre.length + 1 := by simp
    rw [← ep]
    refine nums_ok k436 h436 h0 h4 ss is (pre ++ [nw i]) suf (acc ++ [.int i]) K ht (fun j hj => hs j (List.mem_cons_of_mem _ hj)) (by rw [e]; simp) (by simp; omega) ?_
    have e1 : acc ++ [D.int i] ++ is.map D.int = acc ++ (i :: is).map D.int := by simp
    have e2 : (pre ++ [nw i]).length + is.length = pre.length + (i :: is).length := by simp; omega
    rw [e1, e2]
    exact k
  | [], _ :: _, _, _, _, _, h, _, _, _, _ => h.elim
  | _ :: _, [], _, _, _, _, h, _, _, _, _ => h.elim
section
variable {T : Tbl} {S : Hs} {a b l : Addr} {nb w : Int} {ws : List (List Nat)}
noncomputable abbrev rdS (S : Hs) (a b l : Addr) (k m : Nat) : Hs := su S a (rdO b l (k : Int) (m : Int))
noncomputable def WholeC (S : Hs) (a b l : Addr) (nb w : Int) (ws : List (List Nat)) (t : Nat) (c : Nat → List Vx → Hs → VK2 → Prop) : Prop :=
  ∀ (many : Nat) (pre suf : List (List Nat)) (ds : List Deed) (Q : VK2), ws = pre ++ (wordsW ds ++ suf) → okDeeds nb w ds → deps ds ≤ t → many + sizes ds ≤ 40 → ds.length ≤ 12 →
    Q (.d (.tup (encs ds))) (rdS S a b l (pre.length + (wordsW ds).length) (many + sizes ds)) → c 439 [.d (.ref a), .d (.int (t : Nat))] (rdS S a b l pre.length many) Q
noncomputable def DeedC (S : Hs) (a b l : Addr) (nb w : Int) (ws : List (List Nat)) (t : Nat) (c : Nat → List Vx → Hs → VK2 → Prop) : Prop :=
  ∀ (many : Nat) (pre suf : List (List Nat)) (d : Deed) (Q : VK2), ws = pre ++ (wordD d ++ suf) → okDeed nb w d → depD d ≤ t → many + sizeD d ≤ 40 →
    Q (.d (encD d)) (rdS S a b l (pre.length + (wordD d).length) (many + sizeD d)) → c 438 [.d (.ref a), .d (.int (t : Nat))] (rdS S a b l pre.length many) Q
theorem deed_step (E : RdT T) (n6 : nb ≤ 6) (w3 : w ≤ 1000) (r : RdAt S a b l nb w ws) (n t : Nat) (hw : 1 ≤ t → WholeC S a b l nb w ws (t - 1) (cal T (n + 2))) : DeedC S a b l nb w ws t (cal T (n + 3)) := by
  intro many pre suf d Q e ok hd hm q
  refine ⟨_, E.h438, rfl, rfl, ?_⟩
  have c435 := fun many pre suf s Q e q => word_at E (n + 1) (S := S) (a := a) (b := b) (l := l) (nb := nb) (w := w) (ws := ws) (many := many) (pre := pre) (suf := suf) (s := s) (Q := Q) r e q
  have c436 := fun many pre suf i lo hi x Q e h k kx h1 h2 q => number_at E n (S := S) (a := a) (b := b) (l := l) (nb := nb) (w := w) (ws := ws) (many := many) (pre := pre) (suf := suf) (i := i) (lo := lo) (hi := hi) (x := x) (Q := Q) r e h k kx h1 h2 q
  generalize cal T (n + 2) = c at c435 c436 hw ⊢
  have m7 : ∀ (i : Int) (P : VK2) (σ : Sl) (S : Hs), P (.d (.bl (decide (i = 40)))) S → one1 (fun x S1 => wpE T c (.g 7) σ S1 (one1 fun y S2 => op2D .eq x y S2 P)) [.d (.int i)] S := fun i P σ S k => by
    show op2D .eq (.d (.int i)) (T.glob 7) S P
    rw [E.g7]; exact ⟨rfl, rfl, k⟩
  rcases deed_rd n6 w3 d ok with ⟨u, v, rfl⟩ | ⟨s, is, ss, P⟩
  · obtain ⟨⟨oku, lu⟩, okv, lv⟩ := ok
    have hd : 1 + max (deps u) (deps v) ≤ t := hd
    have hm : many + (1 + sizes u + sizes v) ≤ 40 := hm
    have t1 : 1 ≤ t := by omega
    have hw := hw t1
    have e : ws = pre ++ cTry :: (wordsW u ++ (wordsW v ++ suf)) := by
      rw [e]
      show pre ++ ((cTry :: (wordsW u ++ wordsW v)) ++ suf) = _
      simp
    refine ⟨_, rfl, ⟨_, _, rfl, (by rw [E.k435]; exact su_same), ?_⟩⟩
    refine c435 _ pre _ cTry _ e ?_
    refine ⟨_, rfl, ?_⟩
    refine ⟨_, rfl, ⟨_, _, rfl, su_same, ⟨_, rfl, ?_⟩⟩⟩
    refine m7 _ _ _ _ ?_
    rw [decide_eq_false (show ¬ ((many : Nat) : Int) = 40 by omega)]
    refine Br.ff ?_
    refine ⟨_, rfl, ⟨_, rfl, ?_⟩⟩
    rw [E.kd]
    refine Br.tt ?_
    refine ⟨_, rfl, ⟨rfl, rfl, Br.ff ?_⟩⟩
    refine ⟨_, rfl, ⟨rfl, rfl, ?_⟩⟩
    show Br (decide (((t : Nat) : Int) = 0)) _ _
    refine Br.eF (decide_eq_false (by omega)) ?_
    refine ⟨_, rfl, ⟨_, _, rfl, su_same, ⟨_, rfl, ?_⟩⟩⟩
    refine ⟨_, rfl, ⟨_, _, rfl, su_same, Nat.le_of_ble_eq_true rfl, ?_⟩⟩
    rw [su_su]
    refine ⟨_, rfl, ⟨_, _, rfl, su_same, ⟨_, rfl, ?_⟩⟩⟩
    refine ⟨_, rfl, ⟨_, _, rfl, su_same, Nat.le_of_ble_eq_true rfl, ?_⟩⟩
    rw [su_su]
    show wpS T c _ [_, _, _, _, _] (rdS S a b l (pre.length + 1) (many + 1)) _ _ _ _
    refine ⟨_, rfl, ⟨rfl, rfl, Br.tt ?_⟩⟩
    have et : ((t : Nat) : Int) - 1 = ((t - 1 : Nat) : Int) := by omega
    refine ⟨_, rfl, ⟨_, _, rfl, (by rw [E.k439]; exact su_same), ⟨_, rfl, ?_⟩⟩⟩
    show c 439 [.d (.ref a), .d (.int ((t : Nat) - 1))] (rdS S a b l (pre.length + 1) (many + 1)) _
    rw [et]
    have e1 : (pre ++ [cTry]).length = pre.length + 1 := by simp
    rw [← e1]
    refine hw (many + 1) (pre ++ [cTry]) (wordsW v ++ suf) u _ (by rw [e]; simp) oku (by omega) (by omega) lu ?_
    refine ⟨_, rfl, ⟨_, rfl, ⟨_, rfl, ?_⟩⟩⟩
    refine ⟨_, rfl, ⟨_, _, rfl, (by rw [E.k439]; exact su_same), ⟨_, rfl, ?_⟩⟩⟩
    show c 439 [.d (.ref a), .d (.int ((t : Nat) - 1))] (rdS S a b l ((pre ++ [cTry]).length + (wordsW u).length) (many + 1 + sizes u)) _
    rw [et]
    have e2 : (pre ++ [cTry] ++ wordsW u).length = (pre ++ [cTry]).length + (wordsW u).length := List.length_append
    rw [← e2]
    refine hw (many + 1 + sizes u) (pre ++ [cTry] ++ wordsW u) suf v _ (by rw [e]; simp) okv (by omega) (by omega) lv ?_
    refine ⟨_, rfl, Nat.le_of_ble_eq_true rfl, ?_⟩
    have e3 : (pre ++ [cTry] ++ wordsW u).length + (wordsW v).length = pre.length + (wordD (.try_ u v)).length := by
      show _ = pre.length + (cTry :: (wordsW u ++ wordsW v)).length
      simp only [List.length_append, List.length_cons, List.length_nil]; omega
    have e4 : many + 1 + sizes u + sizes v = many + sizeD (.try_ u v) := by show _ = many + (1 + sizes u + sizes v); omega
    rw [e3, e4]
    exact q
  · have e : ws = pre ++ s :: (is.map nw ++ suf) := by rw [e, P.p.w]; rfl
    have ps : pln (.str s) = true := P.p.v.2.2
    have d1 := P.d1
    refine ⟨_, rfl, ⟨_, _, rfl, (by rw [E.k435]; exact su_same), ?_⟩⟩
    refine c435 _ pre _ s _ e ?_
    refine ⟨_, rfl, ?_⟩
    refine ⟨_, rfl, ⟨_, _, rfl, su_same, ⟨_, rfl, ?_⟩⟩⟩
    refine m7 _ _ _ _ ?_
    rw [decide_eq_false (show ¬ ((many : Nat) : Int) = 40 by omega)]
    refine Br.ff ?_
    refine ⟨_, rfl, ⟨_, rfl, ?_⟩⟩
    rw [E.kd, P.k]
    refine Br.ff (Br.ff ?_)
    refine ⟨_, rfl, ⟨_, _, rfl, su_same, ⟨_, rfl, ?_⟩⟩⟩
    refine ⟨_, rfl, ⟨_, _, rfl, su_same, Nat.le_of_ble_eq_true rfl, ?_⟩⟩
    rw [su_su]
    refine ⟨_, rfl, ⟨_, _, rfl, su_same, ⟨_, rfl, ?_⟩⟩⟩
    refine ⟨_, rfl, ⟨_, _, rfl, su_same, Nat.le_of_ble_eq_true rfl, ?_⟩⟩
    rw [su_su]
    show wpS T c _ [_, _, _, _, _] (rdS S a b l (pre.length + 1) (many + 1)) _ _ _ _
    refine ⟨_, rfl, ⟨ps, rfl, ?_⟩⟩
    show Br (decide (s = cTry)) _ _
    refine Br.eF (decide_eq_false P.p.n) ?_
    refine ⟨_, rfl, ⟨_, rfl, Nat.le_of_ble_eq_true rfl, ?_⟩⟩
    refine ⟨_, rfl, ⟨_, _, rfl, (by rw [E.kd]; exact P.k), ?_⟩⟩
    have e1 : (pre ++ [s]).length = pre.length + 1 := by simp
    rw [← e1]
    refine nums_ok E.k436 (c436 _) rfl (by show 4 < 5; decide) ss is (pre ++ [s]) suf [] _ P.r P.p.i (by rw [e]; simp) (by have := P.p.l; simp; omega) ?_
    refine ⟨_, rfl, ?_⟩
    refine ⟨(by show 1 + (([] : List D) ++ is.map D.int).length ≤ sizeLine; have := P.p.l; rw [List.nil_append, List.length_map, sizeLine_eq]; omega), ?_⟩
    have e2 : (pre ++ [s]).length + is.length = pre.length + (wordD d).length := by rw [P.p.w]; simp; omega
    have e3 : many + 1 = many + sizeD d := by rw [d1]
    rw [e2, e3]
    have e4 : encD d = .tup ([.str s] ++ ([] ++ is.map D.int)) := by rw [P.p.e]; rfl
    rw [e4] at q
    exact q
theorem whl_ind4 {tst : Sl → Hs → (Bool → Hs → Prop) → Prop} {body : SK2 → SK2} {nx : SK2} (I : Nat → SK2) (h0 : ∀ (k : SK2) σ S, I 0 σ S → tst σ S fun b S1 => Br b (body k σ S1) (nx σ S1))
    (hs : ∀ n (k : SK2) σ S, (∀ σ S, I n σ S → k σ S) → I (n + 1) σ S → tst σ S fun b S1 => Br b (body k σ S1) (nx σ S1)) : ∀ n σ S, I n σ S → whlN tst body nx (n + 1) σ S
  | 0, σ, S, i => h0 _ σ S i
  | n + 1, σ, S, i => hs n _ σ S (whl_ind4 I h0 hs n) i
theorem word_head {nb w : Int} (d : Deed) : ∃ s r, wordD d = s :: r ∧ s ≠ [41] ∧ okW s := by
  cases d with
  | _ => exact ⟨_, _, rfl, by decide, by unfold okW; decide⟩
theorem whole_step (E : RdT T) (r : RdAt S a b l nb w ws) (n t : Nat) (hd : DeedC S a b l nb w ws t (cal T (n + 3))) : WholeC S a b l nb w ws t (cal T (n + 4)) := by
  intro many pre suf ds Q e ok hdp hm hl q
  refine ⟨_, E.h439, rfl, rfl, ?_⟩
  have c435 := fun many pre suf s Q e q => word_at E (n + 2) (S := S) (a := a) (b := b) (l := l) (nb := nb) (w := w) (ws := ws) (many := many) (pre := pre) (suf := suf) (s := s) (Q := Q) r e q
  have c437 := fun many pre suf Q e q => bracket_at E (n + 1) (S := S) (a := a) (b := b) (l := l) (nb := nb) (w := w) (ws := ws) (many := many) (pre := pre) (suf := suf) (Q := Q) r e q
  generalize cal T (n + 3) = c at c435 c437 hd ⊢
  have m6 : ∀ (i : Int) (P : VK2) (σ : Sl) (S : Hs), P (.d (.bl (decide (i = 12)))) S → one1 (fun x S1 => wpE T c (.g 6) σ S1 (one1 fun y S2 => op2D .eq x y S2 P)) [.d (.int i)] S := fun i P σ S k => by
    show op2D .eq (.d (.int i)) (T.glob 6) S P
    rw [E.g6]; exact ⟨rfl, rfl, k⟩
  refine ⟨_, rfl, ⟨_, _, rfl, (by rw [E.k437]; exact su_same), ?_⟩⟩
  refine c437 _ pre (wordsI ds ++ [41] :: suf) _ (by rw [e]; show pre ++ (([40] :: (wordsI ds ++ [[41]])) ++ suf) = _; simp) ?_
  refine ⟨_, rfl, Nat.le_of_ble_eq_true rfl, ⟨ds.length + 1, ?_⟩⟩
  refine whl_ind4 (fun k σ S' => ∃ as es, ds = as ++ es ∧ k = es.length ∧ σ = [some (.d (.ref a)), some (.d (.int (t : Nat))), some (.vl (encs as))] ∧ S' = rdS S a b l (pre.length + 1 + (wordsI as).length) (many + sizes as)) ?_ ?_ _ _ _ ⟨[], ds, rfl, rfl, rfl, rfl⟩
  · rintro k σ S' ⟨as, es, e1, e2, rfl, rfl⟩
    have : es = [] := List.length_eq_zero_iff.mp e2.symm
    subst this
    rw [List.append_nil] at e1
    subst e1
    have ep : (pre ++ [40] :: wordsI ds).length = pre.length + 1 + (wordsI ds).length := by simp; omega
    have ee : ws = (pre ++ [40] :: wordsI ds) ++ [41] :: suf := by rw [e]; show pre ++ (([40] :: (wordsI ds ++ [[41]])) ++ suf) = _; simp
    rw [← ep]
    refine ⟨_, rfl, ⟨_, _, rfl, (by rw [E.k435]; exact su_same), ?_⟩⟩
    refine c435 _ (pre ++ [40] :: wordsI ds) suf [41] _ ee ?_
    refine ⟨rfl, rfl, Br.ff ?_⟩
    refine ⟨_, rfl, ⟨_, _, rfl, su_same, ⟨_, rfl, ?_⟩⟩⟩
    refine ⟨_, rfl, ⟨_, _, rfl, su_same, Nat.le_of_ble_eq_true rfl, ?_⟩⟩
    rw [su_su]
    refine ⟨_, rfl, ⟨_, rfl, ?_⟩⟩
    have e3 : (pre ++ [40] :: wordsI ds).length + 1 = pre.length + (wordsW ds).length := by show _ = pre.length + ([40] :: (wordsI ds ++ [[41]])).length; simp only [List.length_append, List.length_cons, List.length_nil]; omega
    rw [← e3] at q
    exact q
  · rintro k kk σ S' hk ⟨as, es, e1, e2, rfl, rfl⟩
    cases es with
    | nil => cases e2
    | cons d es =>
      have hdm : d ∈ ds := by rw [e1]; exact mem_app
      have okd := okDeed_mem4 ok hdm
      have ddp : depD d ≤ t := Nat.le_trans (deps_mem hdm) hdp
      have hsz : sizes ds = sizes as + (sizeD d + sizes es) := by rw [e1, sizes_append]; rfl
      have hln : as.length + (es.length + 1) = ds.length := by rw [e1, List.length_append, List.length_cons]
      obtain ⟨s, sr, es1, es2, es3⟩ := word_head (nb := nb) (w := w) d
      have ep : (pre ++ [40] :: wordsI as).length = pre.length + 1 + (wordsI as).length := by simp; omega
      have ee : ws = (pre ++ [40] :: wordsI as) ++ (wordD d ++ (wordsI es ++ [41] :: suf)) := by
        rw [e, e1]
        show pre ++ (([40] :: (wordsI (as ++ d :: es) ++ [[41]])) ++ suf) = _
        rw [wordsI_append]
        show pre ++ (([40] :: (wordsI as ++ (wordD d ++ wordsI es) ++ [[41]])) ++ suf) = _
        simp
      rw [← ep]
      refine ⟨_, rfl, ⟨_, _, rfl, (by rw [E.k435]; exact su_same), ?_⟩⟩
      refine c435 _ (pre ++ [40] :: wordsI as) (sr ++ (wordsI es ++ [41] :: suf)) s _ (by rw [ee, es1]; simp) ?_
      refine ⟨es3.2.2, rfl, ?_⟩
      show Br (!decide (s = [41])) _ _
      refine Br.eT (by rw [decide_eq_false es2]; rfl) ?_
      refine ⟨_, rfl, ⟨_, rfl, ?_⟩⟩
      refine m6 _ _ _ _ ?_
      rw [decide_eq_false (show ¬ (((encs as).length : Nat) : Int) = 12 by rw [encs_length]; omega)]
      refine Br.ff ?_
      refine ⟨_, rfl, ⟨_, rfl, ⟨_, _, rfl, (by rw [E.k438]; exact su_same), ⟨_, rfl, ?_⟩⟩⟩⟩
      refine hd (many + sizes as) (pre ++ [40] :: wordsI as) (wordsI es ++ [41] :: suf) d _ ee okd ddp (by omega) ?_
      refine ⟨(by show (encs as).length < sizeLine; rw [encs_length, sizeLine_eq]; omega), ?_⟩
      refine hk _ _ ⟨as ++ [d], es, by rw [e1]; simp, by simpa using e2, ?_, ?_⟩
      · rw [enc1]; rfl
      · rw [wordsI_append, wordsI_one, sizes_append, ep]
        have e4 : pre.length + 1 + (wordsI as).length + (wordD d).length = pre.length + 1 + (wordsI as ++ wordD d).length := by rw [List.length_append]; omega
        have e5 : many + sizes as + sizeD d = many + (sizes as + sizes [d]) := by simp [sizes]; omega
        rw [e4, e5]
end
theorem wholes {T : Tbl} (E : RdT T) {S : Hs} {a b l : Addr} {nb w : Int} {ws : List (List Nat)} (n6 : nb ≤ 6) (w3 : w ≤ 1000) (r : RdAt S a b l nb w ws) : ∀ (t n : Nat), WholeC S a b l nb w ws t (cal T (n + 4 + 2 * t))
  | 0, n => whole_step E r n 0 (deed_step E n6 w3 r n 0 fun h => absurd h (by decide))
  | t + 1, n => by
    rw [show n + 4 + 2 * (t + 1) = n + 2 + 2 * t + 4 - 0 by omega]
    refine whole_step E r (n + 2 + 2 * t) (t + 1) (deed_step E n6 w3 r (n + 2 + 2 * t) (t + 1) fun _ => ?_)
    have := wholes E n6 w3 r t n
    rw [show n + 4 + 2 * t = n + 2 + 2 * t + 2 by omega] at this
    exact this
theorem bounds4_ok {T : Tbl} (E : RdT T) (n : Nat) {S : Hs} {nb w : Int} {Q : VK2} (q : Q (.vd (bnds nb w)) S) : cal T (n + 1) 17 [.d (.tup [.int nb, .int w])] S Q := by
  refine ⟨_, E.h17, rfl, rfl, ?_⟩
  generalize cal T n = c
  have b4 : ∀ K : D → Hs → Prop, K (.int 3) S → bx (T.glob 4) S K := fun K k => by rw [E.g4]; exact k
  have b5 : ∀ K : D → Hs → Prop, K (.int 12) S → bx (T.glob 5) S K := fun K k => by rw [E.g5]; exact k
  refine b4 _ ?_
  repeat (first | refine ⟨Nat.le_of_ble_eq_true rfl, ?_⟩ | refine ⟨_, rfl, ?_⟩)
  refine b5 _ ?_
  refine ⟨_, rfl, Nat.le_of_ble_eq_true rfl, ?_⟩
  exact ⟨_, rfl, Nat.le_of_ble_eq_true rfl, q⟩
theorem read_ok {T : Tbl} (E : RdT T) {nb w : Int} (n6 : nb ≤ 6) (w3 : w ≤ 1000) (n : Nat) {S : Hs} {ds : List Deed} {Q : VK2} (ok : okDeeds nb w ds) (hd : deps ds ≤ 3) (hm : sizes ds ≤ 40) (hl : ds.length ≤ 12)
    (q : ∀ S', Ext S S' → Q (.d (.tup (encs ds))) S') : cal T (n + 11) 440 [.d (.tup [.int nb, .int w]), .d (.str (joinD [32] (wordsW ds)))] S Q := by
  refine ⟨_, E.h440, rfl, rfl, ?_⟩
  have wk := wordsW_ok n6 w3 ok
  have wl := wordsW_len ds
  have c17 := fun S Q q => bounds4_ok E (n + 8) (S := S) (nb := nb) (w := w) (Q := Q) q
  have c439 := fun S a b l (r : RdAt S a b l nb w (wordsW ds)) => wholes E n6 w3 r 3 n
  rw [show n + 4 + 2 * 3 = n + 10 by omega] at c439
  have c374 : ∀ (S : Hs) (a l : Addr) (Q : VK2), S a = some (.ins 13 []) → (∀ b, S b = none → Q (.d .non) (su (su S b (.dic (bnds nb w))) a (rdO b l 0 0))) → cal T (n + 10) 374 [.d (.ref a), .d (.tup [.int nb, .int w]), .d (.ref l)] S Q := by
    intro S a l Q ha k
    refine ⟨_, E.h374, rfl, rfl, ?_⟩
    generalize cal T (n + 9) = c at c17
    refine ⟨_, rfl, c17 _ _ ?_⟩
    intro b hb
    have ne : a ≠ b := fun z => by rw [z, hb] at ha; cases ha
    refine ⟨_, rfl, ⟨_, _, rfl, (by rw [su_ne ne]; exact ha), Nat.le_of_ble_eq_true rfl, ?_⟩⟩
    refine ⟨_, rfl, ⟨_, rfl, ⟨_, _, rfl, su_same, Nat.le_of_ble_eq_true rfl, ?_⟩⟩⟩
    rw [su_su]
    refine ⟨_, rfl, ⟨_, _, rfl, su_same, Nat.le_of_ble_eq_true rfl, ?_⟩⟩
    rw [su_su]
    refine ⟨_, rfl, ⟨_, _, rfl, su_same, Nat.le_of_ble_eq_true rfl, ?_⟩⟩
    rw [su_su]
    exact k b hb
  generalize cal T (n + 10) = c at c439 c374 ⊢
  refine ⟨_, rfl, ⟨_, rfl, ⟨trivial, ⟨_, _, rfl, rfl, by decide, (by have := joinD_len wk; rw [sizeLine_eq]; omega), ?_⟩⟩⟩⟩
  rw [split_words wk (by show [40] :: _ ≠ []; simp)]
  intro l hl'
  intro a ha
  rw [E.ci]
  refine c374 _ _ _ _ su_same fun b hb => ⟨rfl, ?_⟩
  have nal : a ≠ l := fun z => by rw [z, su_same] at ha; cases ha
  have nba : b ≠ a := fun z => by rw [z, su_same] at hb; cases hb
  have nbl : b ≠ l := fun z => by rw [z, su_ne (fun y => nal y.symm), su_same] at hb; cases hb
  have sa : S a = none := by rw [su_ne nal] at ha; exact ha
  have sb : S b = none := by rw [su_ne nba, su_ne nbl] at hb; exact hb
  generalize hSb : su (su (su S l (.lst ((wordsW ds).map D.str))) a (.ins 13 [])) b (.dic (bnds nb w)) = Sb
  have r : RdAt Sb a b l nb w (wordsW ds) := by
    rw [← hSb]
    exact ⟨su_same, by rw [su_ne (fun z => nbl z.symm), su_ne (fun z => nal z.symm), su_same], nba, fun z => nal z.symm⟩
  have ex : ∀ o, Ext S (su Sb a o) := fun o x u e => by
    have n1 : x ≠ a := fun z => by rw [z, sa] at e; cases e
    have n2 : x ≠ b := fun z => by rw [z, sb] at e; cases e
    have n3 : x ≠ l := fun z => by rw [z, hl'] at e; cases e
    rw [su_ne n1, ← hSb, su_ne n2, su_ne n1, su_ne n3]
    exact e
  have cw := c439 Sb a b l r 0 [] [] ds
  refine ⟨_, rfl, ⟨_, _, rfl, (by rw [E.k439]; exact su_same), ?_⟩⟩
  show c 439 [.d (.ref a), bor (T.glob 8)] (rdS Sb a b l 0 0) _
  rw [E.g8]
  refine cw _ (by simp) ok hd (by omega) hl ?_
  refine ⟨_, rfl, ⟨_, _, rfl, su_same, ⟨_, rfl, ?_⟩⟩⟩
  refine ⟨_, rfl, ⟨_, _, rfl, su_same, ⟨_, rfl, ?_⟩⟩⟩
  refine ⟨_, r.l', ⟨_, rfl, ?_⟩⟩
  refine Br.eF (decide_eq_false (by rw [List.length_map]; simp)) ?_
  exact ⟨_, rfl, q _ (ex _)⟩
theorem Sm_deed {nb w : Int} {S : Hs} : ∀ (t : Nat) (d : Deed), okDeed nb w d → depD d ≤ t → Sm S (2 * t + 1) (encD d) (encD d) := by
  have three : ∀ (k : Nat) (s : List Nat) (x y : D), ((s.all fun c => decide (c < 1114112)) = true) → Sm S k x x → Sm S k y y → (k = 0 → True) → Sm S (k + 1) (.tup [.str s, x, y]) (.tup [.str s, x, y]) := fun k s x y hs hx hy _ =>
    ⟨_, rfl, Nat.le_of_ble_eq_true rfl, (by cases k <;> exact ⟨rfl, hs⟩), hx, hy, trivial⟩
  have im : ∀ (k : Nat) (i : Int), Sm S k (.int i) (.int i) := fun k i => by cases k <;> exact rfl
  intro t
  induction t with
  | zero =>
    intro d ok l
    cases d with
    | try_ a b => exact absurd l (by show ¬ (1 + max (deps a) (deps b) ≤ 0); omega)
    | wait => exact ⟨_, rfl, Nat.le_of_ble_eq_true rfl, ⟨rfl, rfl⟩, trivial⟩
    | _ => exact three _ _ _ _ rfl (im _ _) (im _ _) fun _ => trivial
  | succ t ih =>
    have many : ∀ ds : List Deed, okDeeds nb w ds → deps ds ≤ t → All2 (Sm S (2 * t + 1)) (encs ds) (encs ds) := by
      intro ds
      induction ds with
      | nil => intro _ _; exact trivial
      | cons d ds ihs =>
        intro h l
        have l : max (depD d) (deps ds) ≤ t := l
        exact ⟨ih d h.1 (by omega), ihs h.2 (by omega)⟩
    have tp : ∀ ds : List Deed, okDeeds nb w ds → deps ds ≤ t → ds.length ≤ 12 → Sm S (2 * t + 2) (.tup (encs ds)) (.tup (encs ds)) := fun ds h l n => ⟨_, rfl, by rw [encs_length, sizeLine_eq]; omega, many ds h l⟩
    intro d ok l
    cases d with
    | try_ a b =>
      obtain ⟨⟨h1, h2⟩, h3, h4⟩ := ok
      have l : 1 + max (deps a) (deps b) ≤ t + 1 := l
      exact three _ _ _ _ rfl (tp a h1 (by omega) h2) (tp b h3 (by omega) h4) fun _ => trivial
    | wait => exact ⟨_, rfl, Nat.le_of_ble_eq_true rfl, ⟨rfl, rfl⟩, trivial⟩
    | _ => exact three _ _ _ _ rfl (im _ _) (im _ _) fun _ => trivial
theorem Sm_deeds {nb w : Int} {S : Hs} {t : Nat} : ∀ ds : List Deed, okDeeds nb w ds → deps ds ≤ t → All2 (Sm S (2 * t + 1)) (encs ds) (encs ds)
  | [], _, _ => trivial
  | d :: ds, h, l => by
    have l : max (depD d) (deps ds) ≤ t := l
    exact ⟨Sm_deed t d h.1 (by omega), Sm_deeds ds h.2 (by omega)⟩
theorem law_ok60 {T : Tbl} (h4 : T.fn 4 = some f_law_pen) (h5 : T.fn 5 = some f_law_take) (h6 : T.fn 6 = some f_law_world) (h23 : T.fn 23 = some f_law_size) (h24 : T.fn 24 = some f_law_plain_deed) (h25 : T.fn 25 = some f_law_dealing) (h35 : T.fn 35 = some f_law_same)
    (E : RdT T) (h371 : T.fn 371 = some f_words_of) (h372 : T.fn 372 = some f_dealing_text) (h381 : T.fn 381 = some f_law_words) {f : Nat} (hT : T.fn f = some f_law_64)
    (n : Nat) {ns : List Int} : cal T (n + 13) f [.fz (ns.map D.int)] (fun _ => none) fun r _ => r = .d (.bl true) := by
  refine ⟨_, hT, rfl, rfl, ?_⟩
  have c4 := fun Q => pen_ok h4 (n + 11) (ns := ns) (S := fun _ => none) (Q := Q)
  have c6 := fun S p q ns k r Q => world_ok h5 h6 (n + 10) (S := S) (p := p) (q := q) (ns := ns) (k := k) (r := r) (Q := Q)
  have c25 := fun p q ns a b a1 a6 b2 b3 S k r room Q => dealing_ok h5 h23 h24 h25 (p := p) (q := q) (ns := ns) (a := a) (b := b) a1 a6 b2 b3 3 (n + 5) S k r room Q
  have c381 := fun nb w n6 w3 ds S Q hd ok sz q => law_words_ok h381 (nb := nb) (w := w) n6 w3 (n + 12) ds S Q hd ok sz q
  have c372 := fun nb w n6 w3 ds S Q hd ok sz q => text_ok h371 h372 (nb := nb) (w := w) n6 w3 (n + 11) (ds := ds) (S := S) (Q := Q) hd ok sz q
  have c440 := fun nb w n6 w3 S ds Q ok hd hm hl q => read_ok E (nb := nb) (w := w) n6 w3 (n + 1) (S := S) (ds := ds) (Q := Q) ok hd hm hl q
  have c35 := fun (x : D) (S : Hs) (Q : VK2) (k : Nat) (hk : k ≤ n + 11) s q => same_ok' h35 (n + 11) (n := k) (x := x) (y := x) (S := S) (Q := Q) hk s q
  have lv : 9 ≤ n + 11 := by omega
  generalize cal T (n + 12) = c at c4 c6 c25 c381 c372 c440 c35 ⊢
  refine ⟨_, rfl, c4 _ fun q hq ns1 => ?_⟩
  refine ⟨_, rfl, fun p hp => ?_⟩
  have hne : q ≠ p := fun e => by subst e; rw [su_same] at hp; cases hp
  have h0 : PenAt (su (su (fun _ => none) q (.lst (ns1.map .int))) p (.lst [.ref q, .int 0, .int 0])) p q ns1 0 0 := ⟨su_same, by rw [su_ne hne]; exact su_same, hne, by decide, by decide⟩
  generalize su (su (fun _ => none) q (.lst (ns1.map .int))) p (.lst [.ref q, .int 0, .int 0]) = S0 at h0 ⊢
  refine ⟨_, rfl, c6 _ _ _ _ _ _ _ h0 fun a b k1 r1 a1 a6 b2 b3 k10 r10 => ?_⟩
  have h1 := h0.up k10 r10
  generalize su S0 p (.lst [.ref q, .int k1, .int r1]) = S1 at h1 ⊢
  clear h0
  refine ⟨_, rfl, by decide, by decide, ?_⟩
  refine forL_inv (fun σ S => ∃ s0 s3 s4 s5 s6 k r, σ = [s0, some (.d (.ref p)), some (.d (.tup [.int a, .int b])), s3, s4, s5, s6] ∧ PenAt S p q ns1 k r) (fun _ _ _ => trivial) (fun _ _ _ => rfl) _ ?_ _ _ ⟨_, _, _, _, _, k1, r1, rfl, h1⟩
  rintro x _ kk σ S hk ⟨s0, s3, s4, s5, s6, k, r, rfl, h⟩
  refine ⟨_, rfl, ⟨_, rfl, c25 _ _ _ _ _ a1 a6 b2 b3 _ _ _ _ _ h (by decide) (by decide) fun ds k2 r2 sz ln ok dp k20 r20 => ?_⟩⟩
  have h2 := h.up k20 r20
  generalize su S p (.lst [.ref q, .int k2, .int r2]) = S2 at h2 ⊢
  clear h
  have sz : sizes ds ≤ 40 := by omega
  have wk := wordsW_ok (by omega : a ≤ 6) b3 ok
  have wl := wordsW_len ds
  have sl := lens_le _ wk
  have st : ∀ S, Sm S 0 (.str (joinD [32] (wordsW ds))) (.str (joinD [32] (wordsW ds))) := fun S => ⟨rfl, joinD_all wk⟩
  refine ⟨trivial, ⟨_, rfl, c381 a b (by omega) b3 ds _ _ (by omega) ok sz ?_⟩⟩
  refine ⟨_, _, rfl, rfl, (by show _ + _ * 1 ≤ _; omega), ?_⟩
  refine ⟨_, rfl, c372 a b (by omega) b3 ds _ _ (by omega) ok sz ?_⟩
  refine ⟨_, rfl, ?_⟩
  refine c35 (.str (joinD [32] (wordsW ds))) _ _ 0 (by omega) (st _) ?_
  refine Br.ff ?_
  refine ⟨_, rfl, ⟨_, rfl, c440 a b (by omega) b3 _ ds _ ok dp sz ln fun S3 x3 => ?_⟩⟩
  have h3 : PenAt S3 p q ns1 k2 r2 := ⟨x3 _ _ h2.hp, x3 _ _ h2.hq, h2.ne, h2.hk, h2.hr⟩
  refine ⟨_, rfl, ⟨_, rfl, ?_⟩⟩
  refine c35 (.tup (encs ds)) _ _ 8 (by omega) ⟨_, rfl, by rw [encs_length, sizeLine_eq]; omega, Sm_deeds ds ok dp⟩ ?_
  refine Br.ff ?_
  refine ⟨_, rfl, c372 a b (by omega) b3 ds _ _ (by omega) ok sz ?_⟩
  refine ⟨_, rfl, ?_⟩
  refine c35 (.str (joinD [32] (wordsW ds))) _ _ 0 (by omega) (st _) ?_
  exact Br.ff (hk _ _ ⟨_, _, _, _, _, k2, r2, rfl, h3⟩)
noncomputable def topS (i : Nat) : Stmt := PySem.Challenge.pw_oneglance_k60_dealings_written.main.body.getD i (.Pass ⟨0, 0, 0, 0⟩)
noncomputable def d_bounds_of : DefI := ⟨17, "bounds_of", "bounds_of", topS 7, ["world"], ["world"], f_bounds_of, none, false⟩
noncomputable def d_words_of : DefI := ⟨371, "words_of", "words_of", topS 14, ["dealing", "found", "deed", "number"], ["dealing"], f_words_of, none, false⟩
noncomputable def d_dealing_text : DefI := ⟨372, "dealing_text", "dealing_text", topS 15, ["dealing"], ["dealing"], f_dealing_text, none, false⟩
noncomputable def d_figures_number : DefI := ⟨373, "figures_number", "figures_number", topS 16, ["word", "sign"], ["word"], f_figures_number, none, false⟩
noncomputable def d_Reader_init : DefI := ⟨374, "__init__", "Reader.__init__", inClass (topS 17) 0, ["self", "world", "words"], ["self", "world", "words"], f_Reader_init, (some 13), false⟩
noncomputable def d_Reader_word_2 : DefI := ⟨435, "word", "Reader.word", inClass (topS 17) 1, ["self"], ["self"], f_Reader_word_2, (some 13), false⟩
noncomputable def d_Reader_number_2 : DefI := ⟨436, "number", "Reader.number", inClass (topS 17) 2, ["self", "sort", "number"], ["self", "sort"], f_Reader_number_2, (some 13), false⟩
noncomputable def d_Reader_bracket_2 : DefI := ⟨437, "bracket", "Reader.bracket", inClass (topS 17) 3, ["self"], ["self"], f_Reader_bracket_2, (some 13), false⟩
noncomputable def d_Reader_deed_2 : DefI := ⟨438, "deed", "Reader.deed", inClass (topS 17) 4, ["self", "tries", "word", "one", "sort"], ["self", "tries"], f_Reader_deed_2, (some 13), false⟩
noncomputable def d_Reader_whole_2 : DefI := ⟨439, "whole", "Reader.whole", inClass (topS 17) 5, ["self", "tries", "deeds"], ["self", "tries"], f_Reader_whole_2, (some 13), false⟩
noncomputable def d_read_dealing_2 : DefI := ⟨440, "read_dealing", "read_dealing", topS 18, ["world", "text", "reader", "found"], ["world", "text"], f_read_dealing_2, none, false⟩
noncomputable def d_law_pen : DefI := ⟨4, "_law_pen", "_law_pen", topS 20, ["script"], ["script"], f_law_pen, none, false⟩
noncomputable def d_law_take : DefI := ⟨5, "_law_take", "_law_take", topS 21, ["pen", "many", "at", "cell", "one", "two", "three", "found"], ["pen", "many"], f_law_take, none, false⟩
noncomputable def d_law_world : DefI := ⟨6, "_law_world", "_law_world", topS 22, ["pen"], ["pen"], f_law_world, none, false⟩
noncomputable def d_law_size : DefI := ⟨23, "_law_size", "_law_size", topS 24, ["dealing", "many", "deed"], ["dealing"], f_law_size, none, false⟩
noncomputable def d_law_plain_deed : DefI := ⟨24, "_law_plain_deed", "_law_plain_deed", topS 25, ["pen", "world", "way", "hand"], ["pen", "world", "way", "hand"], f_law_plain_deed, none, false⟩
noncomputable def d_law_dealing : DefI := ⟨25, "_law_dealing", "_law_dealing", topS 26, ["pen", "world", "room", "tries", "deeds", "left", "k", "way", "hand", "one", "other"], ["pen", "world", "room", "tries"], f_law_dealing, none, false⟩
noncomputable def d_law_words : DefI := ⟨381, "_law_words", "_law_words", topS 27, ["dealing", "found", "deed", "number"], ["dealing"], f_law_words, none, false⟩
noncomputable def d_law_same : DefI := ⟨35, "_law_same", "_law_same", topS 28, ["found", "due", "one", "other"], ["found", "due"], f_law_same, none, false⟩
noncomputable def d_law_64 : DefI := ⟨441, "law", "law", topS 29, ["script", "pen", "world", "turn", "dealing", "text", "found"], ["script"], f_law_64, none, false⟩
noncomputable def c_Reader : ClsI := ⟨13, "Reader", ["bounds", "words", "at", "many"], 374⟩
noncomputable def g_LAST_HAND : Nat × Str × Vx := (4, "LAST_HAND", (.d (.int 3)))
noncomputable def g_MOST_LEAP : Nat × Str × Vx := (5, "MOST_LEAP", (.d (.int 12)))
noncomputable def g_MOST_DEEDS : Nat × Str × Vx := (6, "MOST_DEEDS", (.d (.int 12)))
noncomputable def g_MOST_IN_ALL : Nat × Str × Vx := (7, "MOST_IN_ALL", (.d (.int 40)))
noncomputable def g_MOST_TRIES : Nat × Str × Vx := (8, "MOST_TRIES", (.d (.int 3)))
noncomputable def g_FIGURES : Nat × Str × Vx := (21, "FIGURES", (.d (.str [48, 49, 50, 51, 52, 53, 54, 55, 56, 57])))
noncomputable def g_MOST_FIGURES : Nat × Str × Vx := (22, "MOST_FIGURES", (.d (.int 4)))
noncomputable def kd_PARTS : List (List Nat × List (List Nat)) := [([108, 111, 111, 107], [[104, 97, 110, 100], [98, 111, 120]]), ([112, 117, 116], [[98, 111, 120], [104, 97, 110, 100]]), ([115, 101, 116], [[104, 97, 110, 100], [110, 117, 109, 98, 101, 114]]), ([112, 108, 117, 115], [[104, 97, 110, 100], [104, 97, 110, 100]]), ([108, 101, 97, 112], [[104, 97, 110, 100], [108, 101, 97, 112]]), ([119, 97, 105, 116], [])]
noncomputable def inf : Inf := ⟨[d_bounds_of, d_words_of, d_dealing_text, d_figures_number, d_Reader_init, d_Reader_word_2, d_Reader_number_2, d_Reader_bracket_2, d_Reader_deed_2, d_Reader_whole_2, d_read_dealing_2, d_law_pen, d_law_take, d_law_world, d_law_size, d_law_plain_deed, d_law_dealing, d_law_words, d_law_same, d_law_64], [c_Reader], [g_LAST_HAND, g_MOST_LEAP, g_MOST_DEEDS, g_MOST_IN_ALL, g_MOST_TRIES, g_FIGURES, g_MOST_FIGURES], [(9, "PARTS", kdT kd_PARTS)]⟩
theorem k_bounds_of : chkD inf d_bounds_of = true := by decide +kernel
theorem k_words_of : chkD inf d_words_of = true := by decide +kernel
theorem k_dealing_text : chkD inf d_dealing_text = true := by decide +kernel
theorem k_figures_number : chkD inf d_figures_number = true := by decide +kernel
theorem k_Reader_init : chkD inf d_Reader_init = true := by decide +kernel
theorem k_Reader_word_2 : chkD inf d_Reader_word_2 = true := by decide +kernel
theorem k_Reader_number_2 : chkD inf d_Reader_number_2 = true := by decide +kernel
theorem k_Reader_bracket_2 : chkD inf d_Reader_bracket_2 = true := by decide +kernel
theorem k_Reader_deed_2 : chkD inf d_Reader_deed_2 = true := by decide +kernel
theorem k_Reader_whole_2 : chkD inf d_Reader_whole_2 = true := by decide +kernel
theorem k_read_dealing_2 : chkD inf d_read_dealing_2 = true := by decide +kernel
theorem k_law_pen : chkD inf d_law_pen = true := by decide +kernel
theorem k_law_take : chkD inf d_law_take = true := by decide +kernel
theorem k_law_world : chkD inf d_law_world = true := by decide +kernel
theorem k_law_size : chkD inf d_law_size = true := by decide +kernel
theorem k_law_plain_deed : chkD inf d_law_plain_deed = true := by decide +kernel
theorem k_law_dealing : chkD inf d_law_dealing = true := by decide +kernel
theorem k_law_words : chkD inf d_law_words = true := by decide +kernel
theorem k_law_same : chkD inf d_law_same = true := by decide +kernel
theorem k_law_64 : chkD inf d_law_64 = true := by decide +kernel
theorem inf_chk : inf.Chk := chk_of (by
  show [d_bounds_of, d_words_of, d_dealing_text, d_figures_number, d_Reader_init, d_Reader_word_2, d_Reader_number_2, d_Reader_bracket_2, d_Reader_deed_2, d_Reader_whole_2, d_read_dealing_2, d_law_pen, d_law_take, d_law_world, d_law_size, d_law_plain_deed, d_law_dealing, d_law_words, d_law_same, d_law_64].all (chkD inf) = true
  simp only [List.all_cons, List.all_nil, Bool.and_self, k_bounds_of, k_words_of, k_dealing_text, k_figures_number, k_Reader_init, k_Reader_word_2, k_Reader_number_2, k_Reader_bracket_2, k_Reader_deed_2, k_Reader_whole_2, k_read_dealing_2, k_law_pen, k_law_take, k_law_world, k_law_size, k_law_plain_deed, k_law_dealing, k_law_words, k_law_same, k_law_64]) (by decide +kernel)
theorem law2 : Holds2 inf 441 := fun ns _ _ => LW.law_ok60 rfl rfl rfl rfl rfl rfl rfl ⟨rfl, rfl, rfl, rfl, rfl, rfl, rfl, rfl, rfl, rfl, rfl, rfl, rfl, rfl, rfl, rfl, rfl, rfl, rfl, rfl, rfl, rfl, rfl⟩ rfl rfl rfl rfl 87
theorem facts {l : PySem.W.OpenLaw} {w : World} {K : PySem.W.Frag} {h : Heap} {mg : Str → Option Value} {fa : Addr} (KX : K.In h) (G : h.Ns mainGlobals mg) (hfa : mg "law" = some (.ref fa))
    {CReader : Addr} {fbounds_of : Addr} {odbounds_of anbounds_of : Option Addr} {slbounds_of : Array (Option Value)} {ocbounds_of kVbounds_of dcbounds_of pmbounds_of cdbounds_of ctbounds_of : Value} {fwords_of : Addr} {odwords_of anwords_of : Option Addr} {slwords_of : Array (Option Value)} {ocwords_of kVwords_of dcwords_of pmwords_of cdwords_of ctwords_of : Value} {fdealing_text : Addr} {oddealing_text andealing_text : Option Addr} {sldealing_text : Array (Option Value)} {ocdealing_text kVdealing_text dcdealing_text pmdealing_text cddealing_text ctdealing_text : Value} {ffigures_number : Addr} {odfigures_number anfigures_number : Option Addr} {slfigures_number : Array (Option Value)} {ocfigures_number kVfigures_number dcfigures_number pmfigures_number cdfigures_number ctfigures_number : Value} {fReader_init : Addr} {odReader_init anReader_init : Option Addr} {slReader_init : Array (Option Value)} {ocReader_init kVReader_init dcReader_init pmReader_init cdReader_init ctReader_init : Value} {fReader_word_2 : Addr} {odReader_word_2 anReader_word_2 : Option Addr} {slReader_word_2 : Array (Option Value)} {ocReader_word_2 kVReader_word_2 dcReader_word_2 pmReader_word_2 cdReader_word_2 ctReader_word_2 : Value} {fReader_number_2 : Addr} {odReader_number_2 anReader_number_2 : Option Addr} {slReader_number_2 : Array (Option Value)} {ocReader_number_2 kVReader_number_2 dcReader_number_2 pmReader_number_2 cdReader_number_2 ctReader_number_2 : Value} {fReader_bracket_2 : Addr} {odReader_bracket_2 anReader_bracket_2 : Option Addr} {slReader_bracket_2 : Array (Option Value)} {ocReader_bracket_2 kVReader_bracket_2 dcReader_bracket_2 pmReader_bracket_2 cdReader_bracket_2 ctReader_bracket_2 : Value} {fReader_deed_2 : Addr} {odReader_deed_2 anReader_deed_2 : Option Addr} {slReader_deed_2 : Array (Option Value)} {ocReader_deed_2 kVReader_deed_2 dcReader_deed_2 pmReader_deed_2 cdReader_deed_2 ctReader_deed_2 : Value} {fReader_whole_2 : Addr} {odReader_whole_2 anReader_whole_2 : Option Addr} {slReader_whole_2 : Array (Option Value)} {ocReader_whole_2 kVReader_whole_2 dcReader_whole_2 pmReader_whole_2 cdReader_whole_2 ctReader_whole_2 : Value} {fread_dealing_2 : Addr} {odread_dealing_2 anread_dealing_2 : Option Addr} {slread_dealing_2 : Array (Option Value)} {ocread_dealing_2 kVread_dealing_2 dcread_dealing_2 pmread_dealing_2 cdread_dealing_2 ctread_dealing_2 : Value} {flaw_pen : Addr} {odlaw_pen anlaw_pen : Option Addr} {sllaw_pen : Array (Option Value)} {oclaw_pen kVlaw_pen dclaw_pen pmlaw_pen cdlaw_pen ctlaw_pen : Value} {flaw_take : Addr} {odlaw_take anlaw_take : Option Addr} {sllaw_take : Array (Option Value)} {oclaw_take kVlaw_take dclaw_take pmlaw_take cdlaw_take ctlaw_take : Value} {flaw_world : Addr} {odlaw_world anlaw_world : Option Addr} {sllaw_world : Array (Option Value)} {oclaw_world kVlaw_world dclaw_world pmlaw_world cdlaw_world ctlaw_world : Value} {flaw_size : Addr} {odlaw_size anlaw_size : Option Addr} {sllaw_size : Array (Option Value)} {oclaw_size kVlaw_size dclaw_size pmlaw_size cdlaw_size ctlaw_size : Value} {flaw_plain_deed : Addr} {odlaw_plain_deed anlaw_plain_deed : Option Addr} {sllaw_plain_deed : Array (Option Value)} {oclaw_plain_deed kVlaw_plain_deed dclaw_plain_deed pmlaw_plain_deed cdlaw_plain_deed ctlaw_plain_deed : Value} {flaw_dealing : Addr} {odlaw_dealing anlaw_dealing : Option Addr} {sllaw_dealing : Array (Option Value)} {oclaw_dealing kVlaw_dealing dclaw_dealing pmlaw_dealing cdlaw_dealing ctlaw_dealing : Value} {flaw_words : Addr} {odlaw_words anlaw_words : Option Addr} {sllaw_words : Array (Option Value)} {oclaw_words kVlaw_words dclaw_words pmlaw_words cdlaw_words ctlaw_words : Value} {flaw_same : Addr} {odlaw_same anlaw_same : Option Addr} {sllaw_same : Array (Option Value)} {oclaw_same kVlaw_same dclaw_same pmlaw_same cdlaw_same ctlaw_same : Value} {flaw_64 : Addr} {odlaw_64 anlaw_64 : Option Addr} {sllaw_64 : Array (Option Value)} {oclaw_64 kVlaw_64 dclaw_64 pmlaw_64 cdlaw_64 ctlaw_64 : Value} {tLAST_HAND : Tok} {tMOST_LEAP : Tok} {tMOST_DEEDS : Tok} {tMOST_IN_ALL : Tok} {tMOST_TRIES : Tok} {tFIGURES : Tok} {tMOST_FIGURES : Tok} {kdPARTS : Addr} {kePARTS : Array DictEntry} {kmPARTS : Nat}
    (aCReader : PySem.W.nsIn K mainGlobals "Reader" = some (some (.ref CReader)))
    (pgReader : PySem.W.plainGet K CReader Str.empty = true)
    (hdReader : PySem.W.hasDictIn K CReader = true)
    (poReader : PySem.W.plainOver K CReader = true)
    (saReader : PySem.W.findIn K (.ref CReader) "__setattr__" = some (some (.builtin "object.__setattr__")))
    (mkReader : PySem.W.makesIn K CReader = true)
    (kcReader : PySem.W.keepIn K (.ref CReader) = true)
    (nReader_bounds : PySem.W.findIn K (.ref CReader) "bounds" = some none)
    (nReader_words : PySem.W.findIn K (.ref CReader) "words" = some none)
    (nReader_at : PySem.W.findIn K (.ref CReader) "at" = some none)
    (nReader_many : PySem.W.findIn K (.ref CReader) "many" = some none)
    (abounds_of : PySem.W.nsIn K mainGlobals "bounds_of" = some (some (.ref fbounds_of)))
    (lbounds_of : K.lookup fbounds_of = some ⟨ocbounds_of, odbounds_of, .func (PySem.W.fnOf "bounds_of" "bounds_of" (defArgs d_bounds_of.st) (defBody d_bounds_of.st) (defScope d_bounds_of.st) .none kVbounds_of dcbounds_of pmbounds_of anbounds_of cdbounds_of ctbounds_of), slbounds_of⟩)
    (cbounds_of : PySem.W.codeIn K cdbounds_of "bounds_of" = true)
    (kbounds_of : PySem.W.keepIn K (.ref fbounds_of) = true)
    (awords_of : PySem.W.nsIn K mainGlobals "words_of" = some (some (.ref fwords_of)))
    (lwords_of : K.lookup fwords_of = some ⟨ocwords_of, odwords_of, .func (PySem.W.fnOf "words_of" "words_of" (defArgs d_words_of.st) (defBody d_words_of.st) (defScope d_words_of.st) .none kVwords_of dcwords_of pmwords_of anwords_of cdwords_of ctwords_of), slwords_of⟩)
    (cwords_of : PySem.W.codeIn K cdwords_of "words_of" = true)
    (kwords_of : PySem.W.keepIn K (.ref fwords_of) = true)
    (adealing_text : PySem.W.nsIn K mainGlobals "dealing_text" = some (some (.ref fdealing_text)))
    (ldealing_text : K.lookup fdealing_text = some ⟨ocdealing_text, oddealing_text, .func (PySem.W.fnOf "dealing_text" "dealing_text" (defArgs d_dealing_text.st) (defBody d_dealing_text.st) (defScope d_dealing_text.st) .none kVdealing_text dcdealing_text pmdealing_text andealing_text cddealing_text ctdealing_text), sldealing_text⟩)
    (cdealing_text : PySem.W.codeIn K cddealing_text "dealing_text" = true)
    (kdealing_text : PySem.W.keepIn K (.ref fdealing_text) = true)
    (afigures_number : PySem.W.nsIn K mainGlobals "figures_number" = some (some (.ref ffigures_number)))
    (lfigures_number : K.lookup ffigures_number = some ⟨ocfigures_number, odfigures_number, .func (PySem.W.fnOf "figures_number" "figures_number" (defArgs d_figures_number.st) (defBody d_figures_number.st) (defScope d_figures_number.st) .none kVfigures_number dcfigures_number pmfigures_number anfigures_number cdfigures_number ctfigures_number), slfigures_number⟩)
    (cfigures_number : PySem.W.codeIn K cdfigures_number "figures_number" = true)
    (kfigures_number : PySem.W.keepIn K (.ref ffigures_number) = true)
    (aReader_init : PySem.W.findIn K (.ref CReader) "__init__" = some (some (.ref fReader_init)))
    (iReader_init : PySem.W.isFn K (.ref fReader_init) = true)
    (lReader_init : K.lookup fReader_init = some ⟨ocReader_init, odReader_init, .func (PySem.W.fnOf "__init__" "Reader.__init__" (defArgs d_Reader_init.st) (defBody d_Reader_init.st) (defScope d_Reader_init.st) .none kVReader_init dcReader_init pmReader_init anReader_init cdReader_init ctReader_init), slReader_init⟩)
    (cReader_init : PySem.W.codeIn K cdReader_init "Reader.__init__" = true)
    (kReader_init : PySem.W.keepIn K (.ref fReader_init) = true)
    (aReader_word_2 : PySem.W.findIn K (.ref CReader) "word" = some (some (.ref fReader_word_2)))
    (iReader_word_2 : PySem.W.isFn K (.ref fReader_word_2) = true)
    (lReader_word_2 : K.lookup fReader_word_2 = some ⟨ocReader_word_2, odReader_word_2, .func (PySem.W.fnOf "word" "Reader.word" (defArgs d_Reader_word_2.st) (defBody d_Reader_word_2.st) (defScope d_Reader_word_2.st) .none kVReader_word_2 dcReader_word_2 pmReader_word_2 anReader_word_2 cdReader_word_2 ctReader_word_2), slReader_word_2⟩)
    (cReader_word_2 : PySem.W.codeIn K cdReader_word_2 "Reader.word" = true)
    (kReader_word_2 : PySem.W.keepIn K (.ref fReader_word_2) = true)
    (aReader_number_2 : PySem.W.findIn K (.ref CReader) "number" = some (some (.ref fReader_number_2)))
    (iReader_number_2 : PySem.W.isFn K (.ref fReader_number_2) = true)
    (lReader_number_2 : K.lookup fReader_number_2 = some ⟨ocReader_number_2, odReader_number_2, .func (PySem.W.fnOf "number" "Reader.number" (defArgs d_Reader_number_2.st) (defBody d_Reader_number_2.st) (defScope d_Reader_number_2.st) .none kVReader_number_2 dcReader_number_2 pmReader_number_2 anReader_number_2 cdReader_number_2 ctReader_number_2), slReader_number_2⟩)
    (cReader_number_2 : PySem.W.codeIn K cdReader_number_2 "Reader.number" = true)
    (kReader_number_2 : PySem.W.keepIn K (.ref fReader_number_2) = true)
    (aReader_bracket_2 : PySem.W.findIn K (.ref CReader) "bracket" = some (some (.ref fReader_bracket_2)))
    (iReader_bracket_2 : PySem.W.isFn K (.ref fReader_bracket_2) = true)
    (lReader_bracket_2 : K.lookup fReader_bracket_2 = some ⟨ocReader_bracket_2, odReader_bracket_2, .func (PySem.W.fnOf "bracket" "Reader.bracket" (defArgs d_Reader_bracket_2.st) (defBody d_Reader_bracket_2.st) (defScope d_Reader_bracket_2.st) .none kVReader_bracket_2 dcReader_bracket_2 pmReader_bracket_2 anReader_bracket_2 cdReader_bracket_2 ctReader_bracket_2), slReader_bracket_2⟩)
    (cReader_bracket_2 : PySem.W.codeIn K cdReader_bracket_2 "Reader.bracket" = true)
    (kReader_bracket_2 : PySem.W.keepIn K (.ref fReader_bracket_2) = true)
    (aReader_deed_2 : PySem.W.findIn K (.ref CReader) "deed" = some (some (.ref fReader_deed_2)))
    (iReader_deed_2 : PySem.W.isFn K (.ref fReader_deed_2) = true)
    (lReader_deed_2 : K.lookup fReader_deed_2 = some ⟨ocReader_deed_2, odReader_deed_2, .func (PySem.W.fnOf "deed" "Reader.deed" (defArgs d_Reader_deed_2.st) (defBody d_Reader_deed_2.st) (defScope d_Reader_deed_2.st) .none kVReader_deed_2 dcReader_deed_2 pmReader_deed_2 anReader_deed_2 cdReader_deed_2 ctReader_deed_2), slReader_deed_2⟩)
    (cReader_deed_2 : PySem.W.codeIn K cdReader_deed_2 "Reader.deed" = true)
    (kReader_deed_2 : PySem.W.keepIn K (.ref fReader_deed_2) = true)
    (aReader_whole_2 : PySem.W.findIn K (.ref CReader) "whole" = some (some (.ref fReader_whole_2)))
    (iReader_whole_2 : PySem.W.isFn K (.ref fReader_whole_2) = true)
    (lReader_whole_2 : K.lookup fReader_whole_2 = some ⟨ocReader_whole_2, odReader_whole_2, .func (PySem.W.fnOf "whole" "Reader.whole" (defArgs d_Reader_whole_2.st) (defBody d_Reader_whole_2.st) (defScope d_Reader_whole_2.st) .none kVReader_whole_2 dcReader_whole_2 pmReader_whole_2 anReader_whole_2 cdReader_whole_2 ctReader_whole_2), slReader_whole_2⟩)
    (cReader_whole_2 : PySem.W.codeIn K cdReader_whole_2 "Reader.whole" = true)
    (kReader_whole_2 : PySem.W.keepIn K (.ref fReader_whole_2) = true)
    (aread_dealing_2 : PySem.W.nsIn K mainGlobals "read_dealing" = some (some (.ref fread_dealing_2)))
    (lread_dealing_2 : K.lookup fread_dealing_2 = some ⟨ocread_dealing_2, odread_dealing_2, .func (PySem.W.fnOf "read_dealing" "read_dealing" (defArgs d_read_dealing_2.st) (defBody d_read_dealing_2.st) (defScope d_read_dealing_2.st) .none kVread_dealing_2 dcread_dealing_2 pmread_dealing_2 anread_dealing_2 cdread_dealing_2 ctread_dealing_2), slread_dealing_2⟩)
    (cread_dealing_2 : PySem.W.codeIn K cdread_dealing_2 "read_dealing" = true)
    (kread_dealing_2 : PySem.W.keepIn K (.ref fread_dealing_2) = true)
    (alaw_pen : PySem.W.nsIn K mainGlobals "_law_pen" = some (some (.ref flaw_pen)))
    (llaw_pen : K.lookup flaw_pen = some ⟨oclaw_pen, odlaw_pen, .func (PySem.W.fnOf "_law_pen" "_law_pen" (defArgs d_law_pen.st) (defBody d_law_pen.st) (defScope d_law_pen.st) .none kVlaw_pen dclaw_pen pmlaw_pen anlaw_pen cdlaw_pen ctlaw_pen), sllaw_pen⟩)
    (claw_pen : PySem.W.codeIn K cdlaw_pen "_law_pen" = true)
    (klaw_pen : PySem.W.keepIn K (.ref flaw_pen) = true)
    (alaw_take : PySem.W.nsIn K mainGlobals "_law_take" = some (some (.ref flaw_take)))
    (llaw_take : K.lookup flaw_take = some ⟨oclaw_take, odlaw_take, .func (PySem.W.fnOf "_law_take" "_law_take" (defArgs d_law_take.st) (defBody d_law_take.st) (defScope d_law_take.st) .none kVlaw_take dclaw_take pmlaw_take anlaw_take cdlaw_take ctlaw_take), sllaw_take⟩)
    (claw_take : PySem.W.codeIn K cdlaw_take "_law_take" = true)
    (klaw_take : PySem.W.keepIn K (.ref flaw_take) = true)
    (alaw_world : PySem.W.nsIn K mainGlobals "_law_world" = some (some (.ref flaw_world)))
    (llaw_world : K.lookup flaw_world = some ⟨oclaw_world, odlaw_world, .func (PySem.W.fnOf "_law_world" "_law_world" (defArgs d_law_world.st) (defBody d_law_world.st) (defScope d_law_world.st) .none kVlaw_world dclaw_world pmlaw_world anlaw_world cdlaw_world ctlaw_world), sllaw_world⟩)
    (claw_world : PySem.W.codeIn K cdlaw_world "_law_world" = true)
    (klaw_world : PySem.W.keepIn K (.ref flaw_world) = true)
    (alaw_size : PySem.W.nsIn K mainGlobals "_law_size" = some (some (.ref flaw_size)))
    (llaw_size : K.lookup flaw_size = some ⟨oclaw_size, odlaw_size, .func (PySem.W.fnOf "_law_size" "_law_size" (defArgs d_law_size.st) (defBody d_law_size.st) (defScope d_law_size.st) .none kVlaw_size dclaw_size pmlaw_size anlaw_size cdlaw_size ctlaw_size), sllaw_size⟩)
    (claw_size : PySem.W.codeIn K cdlaw_size "_law_size" = true)
    (klaw_size : PySem.W.keepIn K (.ref flaw_size) = true)
    (alaw_plain_deed : PySem.W.nsIn K mainGlobals "_law_plain_deed" = some (some (.ref flaw_plain_deed)))
    (llaw_plain_deed : K.lookup flaw_plain_deed = some ⟨oclaw_plain_deed, odlaw_plain_deed, .func (PySem.W.fnOf "_law_plain_deed" "_law_plain_deed" (defArgs d_law_plain_deed.st) (defBody d_law_plain_deed.st) (defScope d_law_plain_deed.st) .none kVlaw_plain_deed dclaw_plain_deed pmlaw_plain_deed anlaw_plain_deed cdlaw_plain_deed ctlaw_plain_deed), sllaw_plain_deed⟩)
    (claw_plain_deed : PySem.W.codeIn K cdlaw_plain_deed "_law_plain_deed" = true)
    (klaw_plain_deed : PySem.W.keepIn K (.ref flaw_plain_deed) = true)
    (alaw_dealing : PySem.W.nsIn K mainGlobals "_law_dealing" = some (some (.ref flaw_dealing)))
    (llaw_dealing : K.lookup flaw_dealing = some ⟨oclaw_dealing, odlaw_dealing, .func (PySem.W.fnOf "_law_dealing" "_law_dealing" (defArgs d_law_dealing.st) (defBody d_law_dealing.st) (defScope d_law_dealing.st) .none kVlaw_dealing dclaw_dealing pmlaw_dealing anlaw_dealing cdlaw_dealing ctlaw_dealing), sllaw_dealing⟩)
    (claw_dealing : PySem.W.codeIn K cdlaw_dealing "_law_dealing" = true)
    (klaw_dealing : PySem.W.keepIn K (.ref flaw_dealing) = true)
    (alaw_words : PySem.W.nsIn K mainGlobals "_law_words" = some (some (.ref flaw_words)))
    (llaw_words : K.lookup flaw_words = some ⟨oclaw_words, odlaw_words, .func (PySem.W.fnOf "_law_words" "_law_words" (defArgs d_law_words.st) (defBody d_law_words.st) (defScope d_law_words.st) .none kVlaw_words dclaw_words pmlaw_words anlaw_words cdlaw_words ctlaw_words), sllaw_words⟩)
    (claw_words : PySem.W.codeIn K cdlaw_words "_law_words" = true)
    (klaw_words : PySem.W.keepIn K (.ref flaw_words) = true)
    (alaw_same : PySem.W.nsIn K mainGlobals "_law_same" = some (some (.ref flaw_same)))
    (llaw_same : K.lookup flaw_same = some ⟨oclaw_same, odlaw_same, .func (PySem.W.fnOf "_law_same" "_law_same" (defArgs d_law_same.st) (defBody d_law_same.st) (defScope d_law_same.st) .none kVlaw_same dclaw_same pmlaw_same anlaw_same cdlaw_same ctlaw_same), sllaw_same⟩)
    (claw_same : PySem.W.codeIn K cdlaw_same "_law_same" = true)
    (klaw_same : PySem.W.keepIn K (.ref flaw_same) = true)
    (alaw_64 : PySem.W.nsIn K mainGlobals "law" = some (some (.ref flaw_64)))
    (llaw_64 : K.lookup flaw_64 = some ⟨oclaw_64, odlaw_64, .func (PySem.W.fnOf "law" "law" (defArgs d_law_64.st) (defBody d_law_64.st) (defScope d_law_64.st) .none kVlaw_64 dclaw_64 pmlaw_64 anlaw_64 cdlaw_64 ctlaw_64), sllaw_64⟩)
    (claw_64 : PySem.W.codeIn K cdlaw_64 "law" = true)
    (klaw_64 : PySem.W.keepIn K (.ref flaw_64) = true)
    (gLAST_HAND : PySem.W.nsIn K mainGlobals "LAST_HAND" = some (some (.int 3 tLAST_HAND)))
    (gMOST_LEAP : PySem.W.nsIn K mainGlobals "MOST_LEAP" = some (some (.int 12 tMOST_LEAP)))
    (gMOST_DEEDS : PySem.W.nsIn K mainGlobals "MOST_DEEDS" = some (some (.int 12 tMOST_DEEDS)))
    (gMOST_IN_ALL : PySem.W.nsIn K mainGlobals "MOST_IN_ALL" = some (some (.int 40 tMOST_IN_ALL)))
    (gMOST_TRIES : PySem.W.nsIn K mainGlobals "MOST_TRIES" = some (some (.int 3 tMOST_TRIES)))
    (gFIGURES : PySem.W.nsIn K mainGlobals "FIGURES" = some (some (.str (sv [48, 49, 50, 51, 52, 53, 54, 55, 56, 57]) tFIGURES)))
    (gMOST_FIGURES : PySem.W.nsIn K mainGlobals "MOST_FIGURES" = some (some (.int 4 tMOST_FIGURES)))
    (kgPARTS : PySem.W.nsIn K mainGlobals "PARTS" = some (some (.ref kdPARTS)))
    (koPARTS : K.lookup kdPARTS = some ⟨.type "dict", none, .dict kePARTS kmPARTS, #[]⟩)
    (klPARTS : PySem.W.KeysLit w.params kePARTS.toList)
    (ksPARTS : (kdPARTS == sysModules) = false)
    (kkPARTS : kdL K kd_PARTS kePARTS.toList = true)
    (b_len : PySem.W.nsIn K mainGlobals "len" = some none)
    (b_int : PySem.W.nsIn K mainGlobals "int" = some none)
    (b_str : PySem.W.nsIn K mainGlobals "str" = some none)
    (b_list : PySem.W.nsIn K mainGlobals "list" = some none)
    (b_tuple : PySem.W.nsIn K mainGlobals "tuple" = some none)
    (b_sorted : PySem.W.nsIn K mainGlobals "sorted" = some none)
    (b_all : PySem.W.nsIn K mainGlobals "all" = some none)
    (b_any : PySem.W.nsIn K mainGlobals "any" = some none)
    (b_min : PySem.W.nsIn K mainGlobals "min" = some none)
    (b_max : PySem.W.nsIn K mainGlobals "max" = some none)
    (b_range : PySem.W.nsIn K mainGlobals "range" = some none)
    (b_enumerate : PySem.W.nsIn K mainGlobals "enumerate" = some none)
    (b_zip : PySem.W.nsIn K mainGlobals "zip" = some none)
    (b_isinstance : PySem.W.nsIn K mainGlobals "isinstance" = some none)
    (b_bool : PySem.W.nsIn K mainGlobals "bool" = some none)
    (b_dict : PySem.W.nsIn K mainGlobals "dict" = some none)
    (b_sum : PySem.W.nsIn K mainGlobals "sum" = some none)
    (b_set : PySem.W.nsIn K mainGlobals "set" = some none)
    (h2 : Holds2 inf 441) :
    ∃ fd : FuncData, (∀ (s : Shared) (v : Value), BindsTo s fd ⟨[v], []⟩ [("script", v)]) ∧ ∀ base : Heap, K.In base → base.Ns mainGlobals mg → FnOk l.prog w K mg base CX0 200 fa fd ["script"] (spLaw K) := by
  have e := hfa.symm.trans (PySem.W.mg_of KX G alaw_64)
  cases e
  let adr : Nat → Addr := fun i => if i = 13 then CReader else 0
  have clsReader : Cls K CReader := ⟨pgReader, hdReader, poReader, saReader⟩
  have ubounds_of := at_fun (L := inf) (adr := adr) (d := d_bounds_of) rfl KX G rfl abounds_of lbounds_of cbounds_of kbounds_of (fun _ _ _ _ _ _ us hl => match us, hl with | [_], _ => rfl)
  have uwords_of := at_fun (L := inf) (adr := adr) (d := d_words_of) rfl KX G rfl awords_of lwords_of cwords_of kwords_of (fun _ _ _ _ _ _ us hl => match us, hl with | [_], _ => rfl)
  have udealing_text := at_fun (L := inf) (adr := adr) (d := d_dealing_text) rfl KX G rfl adealing_text ldealing_text cdealing_text kdealing_text (fun _ _ _ _ _ _ us hl => match us, hl with | [_], _ => rfl)
  have ufigures_number := at_fun (L := inf) (adr := adr) (d := d_figures_number) rfl KX G rfl afigures_number lfigures_number cfigures_number kfigures_number (fun _ _ _ _ _ _ us hl => match us, hl with | [_], _ => rfl)
  have uReader_init := at_meth (L := inf) (mg := mg) (adr := adr) (d := d_Reader_init) (ci := 13) rfl rfl clsReader (by decide +kernel) aReader_init iReader_init lReader_init cReader_init kReader_init (fun _ _ _ _ _ _ us hl => match us, hl with | [_, _, _], _ => rfl)
  have uReader_word_2 := at_meth (L := inf) (mg := mg) (adr := adr) (d := d_Reader_word_2) (ci := 13) rfl rfl clsReader (by decide +kernel) aReader_word_2 iReader_word_2 lReader_word_2 cReader_word_2 kReader_word_2 (fun _ _ _ _ _ _ us hl => match us, hl with | [_], _ => rfl)
  have uReader_number_2 := at_meth (L := inf) (mg := mg) (adr := adr) (d := d_Reader_number_2) (ci := 13) rfl rfl clsReader (by decide +kernel) aReader_number_2 iReader_number_2 lReader_number_2 cReader_number_2 kReader_number_2 (fun _ _ _ _ _ _ us hl => match us, hl with | [_, _], _ => rfl)
  have uReader_bracket_2 := at_meth (L := inf) (mg := mg) (adr := adr) (d := d_Reader_bracket_2) (ci := 13) rfl rfl clsReader (by decide +kernel) aReader_bracket_2 iReader_bracket_2 lReader_bracket_2 cReader_bracket_2 kReader_bracket_2 (fun _ _ _ _ _ _ us hl => match us, hl with | [_], _ => rfl)
  have uReader_deed_2 := at_meth (L := inf) (mg := mg) (adr := adr) (d := d_Reader_deed_2) (ci := 13) rfl rfl clsReader (by decide +kernel) aReader_deed_2 iReader_deed_2 lReader_deed_2 cReader_deed_2 kReader_deed_2 (fun _ _ _ _ _ _ us hl => match us, hl with | [_, _], _ => rfl)
  have uReader_whole_2 := at_meth (L := inf) (mg := mg) (adr := adr) (d := d_Reader_whole_2) (ci := 13) rfl rfl clsReader (by decide +kernel) aReader_whole_2 iReader_whole_2 lReader_whole_2 cReader_whole_2 kReader_whole_2 (fun _ _ _ _ _ _ us hl => match us, hl with | [_, _], _ => rfl)
  have uread_dealing_2 := at_fun (L := inf) (adr := adr) (d := d_read_dealing_2) rfl KX G rfl aread_dealing_2 lread_dealing_2 cread_dealing_2 kread_dealing_2 (fun _ _ _ _ _ _ us hl => match us, hl with | [_, _], _ => rfl)
  have ulaw_pen := at_fun (L := inf) (adr := adr) (d := d_law_pen) rfl KX G rfl alaw_pen llaw_pen claw_pen klaw_pen (fun _ _ _ _ _ _ us hl => match us, hl with | [_], _ => rfl)
  have ulaw_take := at_fun (L := inf) (adr := adr) (d := d_law_take) rfl KX G rfl alaw_take llaw_take claw_take klaw_take (fun _ _ _ _ _ _ us hl => match us, hl with | [_, _], _ => rfl)
  have ulaw_world := at_fun (L := inf) (adr := adr) (d := d_law_world) rfl KX G rfl alaw_world llaw_world claw_world klaw_world (fun _ _ _ _ _ _ us hl => match us, hl with | [_], _ => rfl)
  have ulaw_size := at_fun (L := inf) (adr := adr) (d := d_law_size) rfl KX G rfl alaw_size llaw_size claw_size klaw_size (fun _ _ _ _ _ _ us hl => match us, hl with | [_], _ => rfl)
  have ulaw_plain_deed := at_fun (L := inf) (adr := adr) (d := d_law_plain_deed) rfl KX G rfl alaw_plain_deed llaw_plain_deed claw_plain_deed klaw_plain_deed (fun _ _ _ _ _ _ us hl => match us, hl with | [_, _, _, _], _ => rfl)
  have ulaw_dealing := at_fun (L := inf) (adr := adr) (d := d_law_dealing) rfl KX G rfl alaw_dealing llaw_dealing claw_dealing klaw_dealing (fun _ _ _ _ _ _ us hl => match us, hl with | [_, _, _, _], _ => rfl)
  have ulaw_words := at_fun (L := inf) (adr := adr) (d := d_law_words) rfl KX G rfl alaw_words llaw_words claw_words klaw_words (fun _ _ _ _ _ _ us hl => match us, hl with | [_], _ => rfl)
  have ulaw_same := at_fun (L := inf) (adr := adr) (d := d_law_same) rfl KX G rfl alaw_same llaw_same claw_same klaw_same (fun _ _ _ _ _ _ us hl => match us, hl with | [_, _], _ => rfl)
  have ulaw_64 := at_fun (L := inf) (adr := adr) (d := d_law_64) rfl KX G rfl alaw_64 llaw_64 claw_64 klaw_64 (fun _ _ _ _ _ _ us hl => match us, hl with | [_], _ => rfl)
  have X : Facts inf K mg adr w := by
    refine ⟨fun d hd => ?_, fun c hc => ?_, fun g hg => ?_, blt_of KX G b_len b_int b_str b_list b_tuple b_sorted b_all b_any b_min b_max b_range b_enumerate b_zip b_isinstance b_bool b_dict b_sum b_set, fun g hg => ?_⟩
    · have hd : d ∈ [d_bounds_of, d_words_of, d_dealing_text, d_figures_number, d_Reader_init, d_Reader_word_2, d_Reader_number_2, d_Reader_bracket_2, d_Reader_deed_2, d_Reader_whole_2, d_read_dealing_2, d_law_pen, d_law_take, d_law_world, d_law_size, d_law_plain_deed, d_law_dealing, d_law_words, d_law_same, d_law_64] := hd
      simp only [List.mem_cons, List.not_mem_nil, or_false] at hd
      rcases hd with rfl | rfl | rfl | rfl | rfl | rfl | rfl | rfl | rfl | rfl | rfl | rfl | rfl | rfl | rfl | rfl | rfl | rfl | rfl | rfl
      · exact ⟨_, _, ubounds_of⟩
      · exact ⟨_, _, uwords_of⟩
      · exact ⟨_, _, udealing_text⟩
      · exact ⟨_, _, ufigures_number⟩
      · exact ⟨_, _, uReader_init⟩
      · exact ⟨_, _, uReader_word_2⟩
      · exact ⟨_, _, uReader_number_2⟩
      · exact ⟨_, _, uReader_bracket_2⟩
      · exact ⟨_, _, uReader_deed_2⟩
      · exact ⟨_, _, uReader_whole_2⟩
      · exact ⟨_, _, uread_dealing_2⟩
      · exact ⟨_, _, ulaw_pen⟩
      · exact ⟨_, _, ulaw_take⟩
      · exact ⟨_, _, ulaw_world⟩
      · exact ⟨_, _, ulaw_size⟩
      · exact ⟨_, _, ulaw_plain_deed⟩
      · exact ⟨_, _, ulaw_dealing⟩
      · exact ⟨_, _, ulaw_words⟩
      · exact ⟨_, _, ulaw_same⟩
      · exact ⟨_, _, ulaw_64⟩
    · have hc : c ∈ ([c_Reader] : List ClsI) := hc
      simp only [List.mem_cons, List.not_mem_nil, or_false] at hc
      rcases hc with rfl
      · refine ⟨⟨clsReader, (show (["bounds", "words", "at", "many"] : List Str).Nodup by decide +kernel), (show (["bounds", "words", "at", "many"] : List Str).length ≤ 50 by decide), fun f hf => ?_⟩, mkReader, kcReader, PySem.W.mg_of KX G aCReader⟩
        have hf : f ∈ (["bounds", "words", "at", "many"] : List Str) := hf
        simp only [List.mem_cons, List.not_mem_nil, or_false] at hf
        rcases hf with rfl | rfl | rfl | rfl
        · exact nReader_bounds
        · exact nReader_words
        · exact nReader_at
        · exact nReader_many
    · have hg : g ∈ ([g_LAST_HAND, g_MOST_LEAP, g_MOST_DEEDS, g_MOST_IN_ALL, g_MOST_TRIES, g_FIGURES, g_MOST_FIGURES] : List (Nat × Str × Vx)) := hg
      simp only [List.mem_cons, List.not_mem_nil, or_false] at hg
      rcases hg with rfl | rfl | rfl | rfl | rfl | rfl | rfl
      · exact gl_int KX G gLAST_HAND
      · exact gl_int KX G gMOST_LEAP
      · exact gl_int KX G gMOST_DEEDS
      · exact gl_int KX G gMOST_IN_ALL
      · exact gl_int KX G gMOST_TRIES
      · exact gl_txt KX G _ gFIGURES
      · exact gl_int KX G gMOST_FIGURES
    · have hg : g ∈ ([(9, "PARTS", kdT kd_PARTS)] : List (Nat × Str × List (List Nat × D))) := hg
      simp only [List.mem_cons, List.not_mem_nil, or_false] at hg
      rcases hg with rfl
      · exact yf_kd2 KX G kgPARTS koPARTS klPARTS ksPARTS kkPARTS
  exact ⟨_, fun s v => .of_eq rfl, fun base _ _ => law_ok inf_chk X (show d_law_64 ∈ [d_bounds_of, d_words_of, d_dealing_text, d_figures_number, d_Reader_init, d_Reader_word_2, d_Reader_number_2, d_Reader_bracket_2, d_Reader_deed_2, d_Reader_whole_2, d_read_dealing_2, d_law_pen, d_law_take, d_law_world, d_law_size, d_law_plain_deed, d_law_dealing, d_law_words, d_law_same, d_law_64] by simp only [List.mem_cons, true_or, or_true]) rfl h2 ulaw_64⟩
end LW
open PySem PySem.W PyProof.Rows in
set_option maxRecDepth 100000 in
set_option maxHeartbeats 0 in
theorem PySem.Challenge.cw_oneglance_k60_dealings_written_holds : PySem.Challenge.rw_oneglance_k60_dealings_written.Holds := by
  w_on; o_law; k_head; (case hw => w_witness2)
  k_fill
  refine DL.walk (l := PySem.Challenge.rw_oneglance_k60_dealings_written) rfl rfl (fun w h Y => PySem.W.kIn_of Y) ?F
  case F =>
    intro w mg fa h KX G hmg
    refine' LW.facts KX G hmg ?aCReader ?pgReader ?hdReader ?poReader ?saReader ?mkReader ?kcReader ?nReader_bounds ?nReader_words ?nReader_at ?nReader_many ?abounds_of ?lbounds_of ?cbounds_of ?kbounds_of ?awords_of ?lwords_of ?cwords_of ?kwords_of ?adealing_text ?ldealing_text ?cdealing_text ?kdealing_text ?afigures_number ?lfigures_number ?cfigures_number ?kfigures_number ?aReader_init ?iReader_init ?lReader_init ?cReader_init ?kReader_init ?aReader_word_2 ?iReader_word_2 ?lReader_word_2 ?cReader_word_2 ?kReader_word_2 ?aReader_number_2 ?iReader_number_2 ?lReader_number_2 ?cReader_number_2 ?kReader_number_2 ?aReader_bracket_2 ?iReader_bracket_2 ?lReader_bracket_2 ?cReader_bracket_2 ?kReader_bracket_2 ?aReader_deed_2 ?iReader_deed_2 ?lReader_deed_2 ?cReader_deed_2 ?kReader_deed_2 ?aReader_whole_2 ?iReader_whole_2 ?lReader_whole_2 ?cReader_whole_2 ?kReader_whole_2 ?aread_dealing_2 ?lread_dealing_2 ?cread_dealing_2 ?kread_dealing_2 ?alaw_pen ?llaw_pen ?claw_pen ?klaw_pen ?alaw_take ?llaw_take ?claw_take ?klaw_take ?alaw_world ?llaw_world ?claw_world ?klaw_world ?alaw_size ?llaw_size ?claw_size ?klaw_size ?alaw_plain_deed ?llaw_plain_deed ?claw_plain_deed ?klaw_plain_deed ?alaw_dealing ?llaw_dealing ?claw_dealing ?klaw_dealing ?alaw_words ?llaw_words ?claw_words ?klaw_words ?alaw_same ?llaw_same ?claw_same ?klaw_same ?alaw_64 ?llaw_64 ?claw_64 ?klaw_64 ?gLAST_HAND ?gMOST_LEAP ?gMOST_DEEDS ?gMOST_IN_ALL ?gMOST_TRIES ?gFIGURES ?gMOST_FIGURES ?kgPARTS ?koPARTS ?klPARTS ?ksPARTS ?kkPARTS ?b_len ?b_int ?b_str ?b_list ?b_tuple ?b_sorted ?b_all ?b_any ?b_min ?b_max ?b_range ?b_enumerate ?b_zip ?b_isinstance ?b_bool ?b_dict ?b_sum ?b_set LW.law2
    (case aCReader => k_is)
    (case pgReader => k_is)
    (case hdReader => k_is)
    (case poReader => k_is)
    (case saReader => k_is)
    (case mkReader => k_is)
    (case kcReader => k_is)
    (case nReader_bounds => k_is)
    (case nReader_words => k_is)
    (case nReader_at => k_is)
    (case nReader_many => k_is)
    (case abounds_of => k_is)
    (case lbounds_of => k_is)
    (case cbounds_of => k_is)
    (case kbounds_of => k_is)
    (case awords_of => k_is)
    (case lwords_of => k_is)
    (case cwords_of => k_is)
    (case kwords_of => k_is)
    (case adealing_text => k_is)
    (case ldealing_text => k_is)
    (case cdealing_text => k_is)
    (case kdealing_text => k_is)
    (case afigures_number => k_is)
    (case lfigures_number => k_is)
    (case cfigures_number => k_is)
    (case kfigures_number => k_is)
    (case aReader_init => k_is)
    (case iReader_init => k_is)
    (case lReader_init => k_is)
    (case cReader_init => k_is)
    (case kReader_init => k_is)
    (case aReader_word_2 => k_is)
    (case iReader_word_2 => k_is)
    (case lReader_word_2 => k_is)
    (case cReader_word_2 => k_is)
    (case kReader_word_2 => k_is)
    (case aReader_number_2 => k_is)
    (case iReader_number_2 => k_is)
    (case lReader_number_2 => k_is)
    (case cReader_number_2 => k_is)
    (case kReader_number_2 => k_is)
    (case aReader_bracket_2 => k_is)
    (case iReader_bracket_2 => k_is)
    (case lReader_bracket_2 => k_is)
    (case cReader_bracket_2 => k_is)
    (case kReader_bracket_2 => k_is)
    (case aReader_deed_2 => k_is)
    (case iReader_deed_2 => k_is)
    (case lReader_deed_2 => k_is)
    (case cReader_deed_2 => k_is)
    (case kReader_deed_2 => k_is)
    (case aReader_whole_2 => k_is)
    (case iReader_whole_2 => k_is)
    (case lReader_whole_2 => k_is)
    (case cReader_whole_2 => k_is)
    (case kReader_whole_2 => k_is)
    (case aread_dealing_2 => k_is)
    (case lread_dealing_2 => k_is)
    (case cread_dealing_2 => k_is)
    (case kread_dealing_2 => k_is)
    (case alaw_pen => k_is)
    (case llaw_pen => k_is)
    (case claw_pen => k_is)
    (case klaw_pen => k_is)
    (case alaw_take => k_is)
    (case llaw_take => k_is)
    (case claw_take => k_is)
    (case klaw_take => k_is)
    (case alaw_world => k_is)
    (case llaw_world => k_is)
    (case claw_world => k_is)
    (case klaw_world => k_is)
    (case alaw_size => k_is)
    (case llaw_size => k_is)
    (case claw_size => k_is)
    (case klaw_size => k_is)
    (case alaw_plain_deed => k_is)
    (case llaw_plain_deed => k_is)
    (case claw_plain_deed => k_is)
    (case klaw_plain_deed => k_is)
    (case alaw_dealing => k_is)
    (case llaw_dealing => k_is)
    (case claw_dealing => k_is)
    (case klaw_dealing => k_is)
    (case alaw_words => k_is)
    (case llaw_words => k_is)
    (case claw_words => k_is)
    (case klaw_words => k_is)
    (case alaw_same => k_is)
    (case llaw_same => k_is)
    (case claw_same => k_is)
    (case klaw_same => k_is)
    (case alaw_64 => k_is)
    (case llaw_64 => k_is)
    (case claw_64 => k_is)
    (case klaw_64 => k_is)
    (case gLAST_HAND => k_is)
    (case gMOST_LEAP => k_is)
    (case gMOST_DEEDS => k_is)
    (case gMOST_IN_ALL => k_is)
    (case gMOST_TRIES => k_is)
    (case gFIGURES => k_is)
    (case gMOST_FIGURES => k_is)
    (case kgPARTS => k_is)
    (case koPARTS => k_is)
    (case klPARTS => exact ⟨⟨_, _, rfl, rfl⟩, ⟨⟨_, _, rfl, rfl⟩, ⟨⟨_, _, rfl, rfl⟩, ⟨⟨_, _, rfl, rfl⟩, ⟨⟨_, _, rfl, rfl⟩, ⟨⟨_, _, rfl, rfl⟩, trivial⟩⟩⟩⟩⟩⟩)
    (case ksPARTS => exact rfl)
    (case kkPARTS => exact rfl)
    (case b_len => k_is)
    (case b_int => k_is)
    (case b_str => k_is)
    (case b_list => k_is)
    (case b_tuple => k_is)
    (case b_sorted => k_is)
    (case b_all => k_is)
    (case b_any => k_is)
    (case b_min => k_is)
    (case b_max => k_is)
    (case b_range => k_is)
    (case b_enumerate => k_is)
    (case b_zip => k_is)
    (case b_isinstance => k_is)
    (case b_bool => k_is)
    (case b_dict => k_is)
    (case b_sum => k_is)
    (case b_set => k_is)