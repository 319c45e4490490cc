import PyProof.Rows.All
import Wide.All
import OpenK.AllK
import Wide.FinOn
import KE.KStateDown
import HandS.ForMost
import HandS.More
import HandS.Words
import HandS.WordsExc
import HandS.Defaults
import HandS.Head0
import HandS.Head1
import HandS.Head2
import HandS.HeadEnd
import HandS.HeadHook1
import HandS.HeadHook2
import HandS.HeadHook4
import HandS.Exc
import HandS.ExcIs
import HandS.TupAny
import HandS.Style
import HandS.Deep
import HandS.IsInst
import HandS.TupLe
import HandS.SortInts
import HandS.Conv
import HandS.Zip
import HandS.TryOnly
import KE.GoesEnum
import KE.GoesMore
import PyProof.EnumMake
import HandS.SetFor
import HandS.WideBits
import PyProof.Rows.StrItems
import HandS.TupSets
import PyProof.SeqIndex
import HandS.Iter
import HandS.ExcValue
import PyProof.ExcBaseAll.ValueError
import HandS.HeadHook3
import PyProof.FitsInt
import PySem.Challenge.RW_bankwalk_k60_whole_nets_spoilt_anywhere
set_option Elab.async false
set_option linter.all false
set_option maxRecDepth 100000
set_option maxHeartbeats 0
/-! BwCore: a small language of values (PyData), its evaluation. -/
namespace BW
noncomputable section
open PySem PySem.Spec PyProof.Rows L2
abbrev D := PyData

/-! ### the small syntax -/
inductive BOp | add | sub | mul | fdiv | mod | pow | shl | shr | band | bxor
  deriving DecidableEq
inductive COp | eq | ne | lt | le | gt | ge | isN | notN | isB (b : Bool) | notB (b : Bool) | mem | nmem
  deriving DecidableEq
inductive Blt | len | abs | min | max | sum | all | any | tuple | list | sorted | int | str | repr | setlen
  deriving DecidableEq
inductive Blt2 | min | max
  deriving DecidableEq
inductive Ty | int | bool | str | list | tuple
  deriving DecidableEq
inductive Mth | index | count | join | split | bitlen
  deriving DecidableEq
inductive Mut | append | extend | insert | reverse | clear
  deriving DecidableEq
/-- an index that is a constant or a name -/
inductive At | n (i : Int) | v (i : Nat)
mutual
inductive Tg | var (i : Nat) | tup (ts : Tgs)
inductive Tgs | nil | cons (t : Tg) (ts : Tgs)
end
mutual
inductive Ex where
  | non | bl (b : Bool) | int (i : Int) | str (x : Str)
  | var (i : Nat)
  | mv (i : Nat) (k : Nat)
  | io (i : Nat)
  | sarg (i : Nat) | sidx (i : Nat) (e : Ex) | slen (i : Nat)
  | pth (i : Nat) (p : List At)
  | glob (g : Nat)
  | bin (o : BOp) (a b : Ex)
  | neg (a : Ex)
  | cmp (o : COp) (a b : Ex)
  | chn (o p : COp) (a b c : Ex)
  | and (es : Exs) | or (es : Exs) | not (a : Ex)
  | ite (c a b : Ex)
  | tup (es : Exs) | lst (es : Exs)
  | idx (a i : Ex)
  | slc (a : Ex) (lo hi : Exs)
  | rev (a : Ex)
  | comp (e : Ex) (t : Tg) (it : It) (cs : Exs) (own : List Nat)
  | call (f : Nat) (as : Exs)
  | blt (b : Blt) (a : Ex)
  | blt2 (b : Blt2) (a c : Ex)
  | lrng (a : Ex)
  | isi (a : Ex) (ts : List Ty) (one : Bool)
  | mth (m : Mth) (o : Ex) (as : Exs)
  | pop (i : Nat) (e : Ex)
  | tget (g : Nat) (e : Ex)
  | tmem (g : Nat) (e : Ex)
  | dsp (ks : List Str) (vs : Exs) (e : Ex)
  | dspd (ks : List Str) (vs : Exs) (e x : Ex)
  | chn3 (o p q : COp) (a b c d : Ex)
  | setlen (a : Ex)
  | sset (a : Ex)
  | ixs (o : Ex) (as : Exs)
  | lnd (i : Nat) (e : Ex)
  | lnd2 (i j : Nat) (e : Ex)
  | isx (i : Nat) (cs : List Str)
  | xnon (i : Nat)
  | xarg (i : Nat)
  | trng (a : Ex)
  | stuck
inductive Exs where
  | nil | cons (e : Ex) (es : Exs)
inductive It where
  | seq (e : Ex) | rng (a : Ex) | rng2 (a b : Ex) | rng3 (a b c : Ex) | enum (e : Ex) | zip (a b : Ex)
end
mutual
inductive Sm where
  | asg (k : Nat) (i : Nat) (e : Ex)
  | asgT (ts : Tgs) (e : Ex)
  | par (i j : Nat) (a b : Ex) (ki kj : Nat)
  | aug (i : Nat) (e : Ex)
  | expr (e : Ex)
  | mut (i : Nat) (p : List At) (m : Mut) (as : Exs)
  | seti (i : Nat) (p : List At) (x : Ex) (e : Ex)
  | augi (i : Nat) (x : Ex) (e : Ex)
  | ite (c : Ex) (a b : Sms) (ks : List Nat)
  | for_ (t : Tg) (it : It) (b : Sms) (ks : List Nat)
  | whl (c : Ex) (b : Sms) (ks : List Nat)
  | ret (e : Ex) | retN | pass | brk | cont | stuck
  | par3 (i j l : Nat) (es : Exs)
  | mvl (x : Nat) (es : Exs) (k : Nat) (b : Sms) (ks : List Nat)
  | rse (c : Str)
  | trx (b : Sms) (c : Str) (i j : Nat)
inductive Sms where
  | nil | cons (s : Sm) (ss : Sms)
end

/-! ### slots -/
inductive R where
  | un | val (d : D) | own (k : Nat) (d : D) | io (k : Nat) (d : D) | scr (l : List Int) | exc (c : Str)
abbrev Env := List R
abbrev Calls := Nat → List R → Option (D × List R)

/-! ### operations on data -/
def fits (n : Nat) : Bool := decide (n ≤ 16777216)
def isScal : D → D → Bool
  | .none, .none | .none, .int _ | .int _, .none | .none, .bool _ | .bool _, .none | .none, .str _ | .str _, .none => true
  | .int _, .int _ | .bool _, .bool _ | .str _, .str _ => true
  | .int _, .str _ | .str _, .int _ | .bool _, .str _ | .str _, .bool _ => true
  | _, _ => false
def eqS : D → D → Bool
  | .none, .none => true
  | .int i, .int j => decide (i = j)
  | .bool i, .bool j => decide (i = j)
  | .str i, .str j => decide (i = j)
  | _, _ => false
def eqD (a b : D) : Option Bool :=
  if isScal a b then some (eqS a b) else if SeqAt.shaped a && SeqAt.shaped b then some (PyData.eqv a b) else none
def binD : BOp → D → D → Option D
  | .add, .int i, .int j => some (.int (i + j))
  | .add, .bool b, .int j => some (.int (b2i b + j))
  | .sub, .bool b, .int j => some (.int (b2i b - j))
  | .add, .str x, .str y => if fits (x.length + y.length) then some (.str (x ++ y)) else none
  | .add, .list x, .list y => if fits (x.length + y.length) then some (.list (x ++ y)) else none
  | .add, .tuple x, .tuple y => if fits (x.length + y.length) then some (.tuple (x ++ y)) else none
  | .sub, .int i, .int j => some (.int (i - j))
  | .sub, .int i, .bool b => some (.int (i - b2i b))
  | .mul, .int i, .int j => if (-(2 ^ 64) < i ∧ i < 2 ^ 64) ∨ (-(2 ^ 64) < j ∧ j < 2 ^ 64) then some (.int (i * j)) else none
  | .mul, .list x, .int j => if fits (x.length * j.toNat) = true ∧ -(2 ^ 63) ≤ j ∧ j < 2 ^ 63 then some (.list (List.replicate j.toNat x).flatten) else none
  | .fdiv, .int i, .int j => if 0 < j ∧ j < 1073741824 then some (.int (i / j)) else none
  | .mod, .int i, .int j => if 0 < j then some (.int (i % j)) else none
  | .pow, .int i, .int j => if 0 ≤ j ∧ j ≤ 1000000 ∧ i.natAbs < 2 ^ 64 then some (.int (i ^ j.toNat)) else none
  | .shl, .int i, .int j => if 0 ≤ j ∧ j ≤ 1000000 ∧ i.natAbs < 2 ^ 64 then some (.int (i * 2 ^ j.toNat)) else none
  | .shr, .int i, .int j => if 0 ≤ j then some (.int (i / 2 ^ j.toNat)) else none
  | .band, .int i, .int j => some (.int (Builtin.bitAnd i j))
  | .bxor, .int i, .int j => some (.int (Builtin.bitXor i j))
  | _, _, _ => none

def seqOf : D → Option (List D)
  | .list l => some l
  | .tuple l => some l
  | _ => none
def flatD : D → Bool
  | .none => true
  | .bool _ => true
  | .int _ => true
  | .str _ => true
  | _ => false
def flV : D → V
  | .bool b => .bl b
  | .int i => .int i
  | .str x => .str x
  | _ => .non
def memD (x y : D) : Option Bool :=
  match y with
  | .list l => if SeqAt.shaped x && SeqAt.shaped y then some (l.any fun z => PyData.eqv z x) else none
  | .tuple l => if flatD x && l.all flatD then some (inV (flV x) (l.map flV)) else if SeqAt.shaped x && SeqAt.shaped y then some (l.any fun z => PyData.eqv z x) else none
  | .str j => (match x with
    | .str i => some (!(Builtin.Str.occurrences j i 0 j.length 1).isEmpty)
    | _ => none)
  | _ => none
def isNon : D → Bool
  | .none => true
  | _ => false
def isBc (b : Bool) : D → Option Bool
  | .bool c => some (decide (c = b))
  | _ => none
def cmpD : COp → D → D → Option Bool
  | .eq, a, b => eqD a b
  | .ne, a, b => (eqD a b).map (!·)
  | .lt, .int i, .int j => some (decide (i < j))
  | .le, .int i, .int j => some (decide (i ≤ j))
  | .gt, .int i, .int j => some (decide (j < i))
  | .gt, .tuple [.int a, .int b], .tuple [.int c, .int d] => some (decide (c < a ∨ (c = a ∧ d < b)))
  | .ge, .int i, .int j => some (decide (j ≤ i))
  | .isN, a, _ => some (isNon a)
  | .notN, a, _ => some (!isNon a)
  | .isB b, a, _ => isBc b a
  | .notB b, a, _ => (isBc b a).map (!·)
  | .mem, a, b => memD a b
  | .nmem, a, b => (memD a b).map (!·)
  | _, _, _ => none
/-- where an index stands in a sequence of n -/
abbrev ixAt (n : Nat) (i : Int) : Option Nat := ixN n i
def idxD (a i : D) : Option D :=
  match i with
  | .int k => (match a with
    | .list l => (ixAt l.length k).bind fun j => l[j]?
    | .tuple l => (ixAt l.length k).bind fun j => l[j]?
    | _ => none)
  | _ => none
def optI : Option D → Option (Option Int)
  | none => some none
  | some (.int i) => some (some i)
  | _ => none
def cutD {α : Type} (l : List α) (lo hi : Option Int) : List α :=
  let a := HT.sIx l.length 0 lo
  let b := HT.sIx l.length l.length hi
  (l.drop a).take (b - a)
def slcD (a : D) (lo hi : Option Int) : Option D :=
  match a with
  | .list l => some (.list (cutD l lo hi))
  | .tuple l => some (.tuple (cutD l lo hi))
  | _ => none
def intsOf : List D → Option (List Int)
  | [] => some []
  | .int i :: r => (intsOf r).map (i :: ·)
  | _ :: _ => none
def boolsOf : List D → Option (List Bool)
  | [] => some []
  | .bool i :: r => (boolsOf r).map (i :: ·)
  | _ :: _ => none
def strsOf : List D → Option (List Str)
  | [] => some []
  | .str i :: r => (strsOf r).map (i :: ·)
  | _ :: _ => none
def minL : List Int → Option Int
  | [] => none
  | i :: r => some (r.foldl (fun a b => if b < a then b else a) i)
def maxL : List Int → Option Int
  | [] => none
  | i :: r => some (r.foldl (fun a b => if b > a then b else a) i)
def upTo (lo : Int) (n : Nat) : List D := (List.range n).map fun (k : Nat) => PyData.int (lo + k)
/-- the text of a value can be told -/
def shwOk (d : D) : Bool := d.showable && !d.hasDict && decide (d.depth < 60) && fits d.shown.length
def srtI (ns : List Int) : List Int := ns.mergeSort fun a b => decide (a ≤ b)
def bltD : Blt → D → Option D
  | .len, .list l => some (.int l.length)
  | .len, .tuple l => some (.int l.length)
  | .len, .str x => if fits x.length then some (.int x.length) else none
  | .abs, .int i => some (.int (if i < 0 then -i else i))
  | .min, .list l => (intsOf l).bind fun ns => (minL ns).map .int
  | .max, .list l => (intsOf l).bind fun ns => (maxL ns).map .int
  | .sum, .list l => (intsOf l).map fun ns => .int ns.sum
  | .all, .list l => (boolsOf l).map fun bs => .bool (bs.all id)
  | .any, .list l => (boolsOf l).map fun bs => .bool (bs.any id)
  | .tuple, .list l => some (.tuple l)
  | .tuple, .tuple l => some (.tuple l)
  | .list, .list l => some (.list l)
  | .list, .tuple l => some (.list l)
  | .int, .int i => some (.int i)
  | .int, .bool b => some (.int (if b then 1 else 0))
  | .str, d => (match d with
    | .str x => some (.str x)
    | d => if shwOk d then some (.str d.shown) else none)
  | .repr, d => if shwOk d then some (.str d.shown) else none
  | .sorted, .list l => (intsOf l).map fun ns => .list ((srtI ns).map .int)
  | .sorted, .tuple l => (intsOf l).map fun ns => .list ((srtI ns).map .int)
  | .min, .tuple l => (intsOf l).bind fun ns => (minL ns).map .int
  | _, _ => none
def blt2D : Blt2 → D → D → Option D
  | .min, .int i, .int j => some (.int (if j < i then j else i))
  | .max, .int i, .int j => some (.int (if j > i then j else i))
  | _, _, _ => none
def isTy : Ty → D → Bool
  | .int, .int _ => true
  | .int, .bool _ => true
  | .bool, .bool _ => true
  | .str, .str _ => true
  | .list, .list _ => true
  | .tuple, .tuple _ => true
  | _, _ => false
def strsOf' : List D → Option (List Str)
  | [] => some []
  | .str i :: r => (strsOf' r).map (i :: ·)
  | _ :: _ => none
/-- the receivers of a method -/
def rcOk : Mth → D → Bool
  | .index, .list _ => true
  | .count, .list _ => true
  | .join, .str _ => true
  | .split, .str _ => true
  | .bitlen, .int _ => true
  | _, _ => false
def joinD (a : Str) (l : List D) : Option D := (strsOf' l).bind fun ys => if (ys.map (·.length)).sum + ys.length * a.length ≤ 16777216 then some (.str (Txt.join a ys)) else none
def indexD (l : List D) (d : D) : Option D := if (SeqAt.shaped (.list l) && SeqAt.shaped d) = true then (if l.findIdx (fun z => PyData.eqv z d) < l.length then some (.int (l.findIdx fun z => PyData.eqv z d)) else none) else none
def countD (l : List D) : D → Option D
  | .int k => (intsOf l).bind fun ns => some (.int (ns.count k))
  | .bool b => if (SeqAt.shaped (.list l) && SeqAt.shaped (.bool b)) = true then some (.int (l.countP fun w => PyData.eqv w (.bool b) : Nat)) else none
  | _ => none
def splitD (a : Str) : D → Option D
  | .str b => if b.length ≠ 0 ∧ a.length + 2 ≤ 16777216 then some (.list ((Txt.split a b).map .str)) else none
  | _ => none
def joinD' (a : Str) : D → Option D
  | .list l => joinD a l
  | .tuple l => joinD a l
  | _ => none
def mth1 : Mth → D → D → Option D
  | .index, .list l, d => indexD l d
  | .count, .list l, d => countD l d
  | .split, .str a, d => splitD a d
  | .join, .str a, d => joinD' a d
  | _, _, _ => none
def mth0 : Mth → D → Option D
  | .bitlen, .int i => some (.int (Builtin.Int.intBits i))
  | _, _ => none
/-- the first place from a start on -/
def index3D (l : List D) (i k : Int) : Option D := if 0 ≤ k then (intsOf l).bind fun ns => if i ∈ ns.drop k.toNat ∧ ns.length ≤ 16777216 then some (.int ((k.toNat + (ns.drop k.toNat).idxOf i : Nat) : Int)) else none else none
def index3L : D → List D → Option D
  | .list l, [.int i, .int k] => index3D l i k
  | _, _ => none
def mthD (m : Mth) (x : D) : List D → Option D
  | [] => mth0 m x
  | [d] => mth1 m x d
  | _ => none
/-- the module's tables -/
def pr2 (i j : Int) : D := .tuple [.int i, .int j]
def tabs : Nat → List (Str × D)
  | 0 => [("row", pr2 0 1), ("column", pr2 1 0), ("slant", pr2 1 1), ("back", pr2 1 (-1))]
  | 1 => [("skew", .int 5), ("rests", .int 4)]
  | _ => []
/-- the module's constants -/
def G0 : Nat → D
  | 0 => .str "none"
  | 1 => .str "0123456789"
  | 2 => .int 4
  | 3 => .tuple [.int 2, .int 4, .int 8, .int 16]
  | 4 => .tuple [.str "load", .str "net"]
  | 5 => .int 16
  | 6 => .tuple [.str "clash", .str "starts", .str "rests"]
  | 7 => .tuple [.str "row", .str "column", .str "slant", .str "back"]
  | _ => .none
def keyD : D → Option Str
  | .str x => some x
  | _ => none
/-- tuples of numbers -/
def tintOf : D → Option (List Int)
  | .tuple l => intsOf l
  | _ => none
def tintsOf : List D → Option (List (List Int))
  | [] => some []
  | d :: r => (tintOf d).bind fun x => (tintsOf r).map (x :: ·)
/-- how many unlike ones -/
def dcnt {α : Type} [DecidableEq α] : List α → Nat
  | [] => 0
  | x :: r => if x ∈ r then dcnt r else dcnt r + 1
theorem dcnt_le {α : Type} [DecidableEq α] : ∀ l : List α, dcnt l ≤ l.length
  | [] => Nat.le_refl _
  | x :: r => by
    unfold dcnt
    have := dcnt_le r
    split
    · rw [List.length_cons]; omega
    · rw [List.length_cons]; omega
def setlenD : D → Option D
  | .list l => (match intsOf l with
    | some ns => if ns.length < 4000 then some (.int (dcnt ns : Nat)) else none
    | none => (tintsOf l).bind fun ns => if ns.length < 64 then some (.int (dcnt ns : Nat)) else none)
  | .tuple l => (tintsOf l).bind fun ns => if ns.length < 64 then some (.int (dcnt ns : Nat)) else none
  | _ => none

/-! ### names and paths -/
def viewR : R → Option (Nat × D)
  | .un => none
  | .val d => some (0, d)
  | .own k d => some (k, d)
  | .io k d => some (k, d)
  | .scr _ => none
  | .exc _ => none
def slot (ρ : Env) (i : Nat) : R := ρ.getD i .un
def atV (ρ : Env) : At → Option D
  | .n i => some (.int i)
  | .v i => (match slot ρ i with
    | .val d => some d
    | _ => none)
def atI? (ρ : Env) (a : At) : Option Int :=
  match atV ρ a with
  | some (.int n) => some n
  | _ => none
/-- along a path of lists -/
def walkP (ρ : Env) : List At → Nat → D → Option (Nat × D)
  | [], k, d => some (k, d)
  | a :: p, k, .list l => (atI? ρ a).bind fun n => (ixAt l.length n).bind fun j => (l[j]?).bind fun e => walkP ρ p (k - 1) e
  | _ :: _, _, _ => none
/-- an owned list changed along a path: f tells the new list (of items of what depth is left) -/
def chgP (ρ : Env) (f : Nat → List D → Option (List D)) : List At → Nat → D → Option D
  | [], k, .list l => (match k with
    | 0 => none
    | k + 1 => (f k l).map .list)
  | a :: p, k + 1, .list l => (atI? ρ a).bind fun n => (ixAt l.length n).bind fun j => (l[j]?).bind fun e => (chgP ρ f p k e).map fun e' => .list (l.set j e')
  | _, _, _ => none
/-- .. of a slot -/
def chgR (ρ : Env) (f : Nat → List D → Option (List D)) (p : List At) : R → Option R
  | .own k d => (chgP ρ f p k d).map (.own k)
  | .io k d => (chgP ρ f p k d).map (.io k)
  | _ => none
/-- a target's names take a value -/
def putR (ρ : Env) (i : Nat) (r : R) : Option Env :=
  match slot ρ i with
  | .io _ _ => none
  | _ => if i < ρ.length then some (ρ.set i r) else none
/-- a value into a slot -/
def mkR : Nat → D → R
  | 0, d => .val d
  | k + 1, d => .own (k + 1) d
mutual
def bindT : Tg → D → Env → Option Env
  | .var i, d, ρ => putR ρ i (.val d)
  | .tup ts, .tuple l, ρ => bindTs ts l ρ
  | .tup ts, .list l, ρ => bindTs ts l ρ
  | .tup _, _, _ => none
def bindTs : Tgs → List D → Env → Option Env
  | .nil, [], ρ => some ρ
  | .cons t ts, d :: l, ρ => (bindT t d ρ).bind fun ρ1 => bindTs ts l ρ1
  | _, _, _ => none
end
def kills (ρ : Env) : List Nat → Env
  | [] => ρ
  | i :: is => kills (ρ.set i .un) is
/-- the items of a comprehension -/
def compL (f : D → Env → Option (Option D × Env)) : List D → Env → Option (List D × Env)
  | [], ρ => some ([], ρ)
  | d :: ds, ρ => (f d ρ).bind fun p => (compL f ds p.2).map fun q => (match p.1 with
    | some x => x :: q.1
    | none => q.1, q.2)

/-! ### evaluation -/
inductive Op | now (d : D) | late (i : Nat)
def vw (ρ : Env) : Op → Option (Nat × D)
  | .now d => some (0, d)
  | .late i => viewR (slot ρ i)
/-- an operand: a name is looked at when all are there -/
def opE (e : Ex) (k : Env → Option (D × Env)) (ρ : Env) : Option (Op × Env) :=
  match e with
  | .var i => (viewR (slot ρ i)).bind fun _ => some (.late i, ρ)
  | _ => (k ρ).bind fun p => some (.now p.1, p.2)
/-- one operand: a path too -/
def op1 (e : Ex) (k : Env → Option (D × Env)) (ρ : Env) : Option ((Nat × D) × Env) :=
  match e with
  | .var i => (viewR (slot ρ i)).bind fun x => some (x, ρ)
  | .pth i p => (viewR (slot ρ i)).bind fun x => (walkP ρ p x.1 x.2).bind fun y => some (y, ρ)
  | _ => (k ρ).bind fun p => some ((0, p.1), p.2)
inductive Res | nx (ρ : Env) | rt (d : D) (ρ : Env) | bk (ρ : Env) | ct (ρ : Env)
def ioR (ρ : Env) (i : Nat) : Option R :=
  match slot ρ i with
  | .own k d => some (.io k d)
  | .io k d => some (.io k d)
  | _ => none
def scrOf (ρ : Env) (i : Nat) : Option (List Int) :=
  match slot ρ i with
  | .scr l => some l
  | _ => none
/-- an argument: a value now, or a name that is handed on to be changed -/
inductive Ar | now (d : D) | io (i : Nat) | scr (i : Nat) | exc (i : Nat)
/-- a refusal in a slot -/
def excOf (ρ : Env) (i : Nat) : Option Str :=
  match slot ρ i with
  | .exc c => some c
  | _ => none
/-- the program's refusals -/
def subC (c d : Str) : Bool := decide (c = d) || decide (d = "BankError") || decide (d = "ValueError")
/-- a refusal is caught: the slot j takes it, the clause's own slot i is gone -/
def excR (ρ : Env) (i j : Nat) (c : Str) : Option Env :=
  match slot ρ i, slot ρ j with
  | .un, .un => if i < ρ.length ∧ j < ρ.length ∧ i ≠ j then some (ρ.set j (.exc c)) else none
  | .un, .val _ => if i < ρ.length ∧ j < ρ.length ∧ i ≠ j then some (ρ.set j (.exc c)) else none
  | _, _ => none
def ioIn (i : Nat) : List Ar → Bool
  | [] => false
  | .io j :: r => i == j || ioIn i r
  | _ :: r => ioIn i r
/-- no name is handed on twice -/
def ioOk : List Ar → Bool
  | [] => true
  | .io i :: r => !ioIn i r && ioOk r
  | _ :: r => ioOk r
def dropI : List Ar → Env → Env
  | [], ρ => ρ
  | .io i :: r, ρ => dropI r (ρ.set i .un)
  | _ :: r, ρ => dropI r ρ
def backR : R → R → R
  | .own _ _, .io k d => .own k d
  | .io _ _, .io k d => .io k d
  | _, _ => .un
def putBack (ρ0 : Env) : List Ar → List R → Env → Env
  | .io i :: as, r :: rs, ρ => putBack ρ0 as rs (ρ.set i (backR (slot ρ0 i) r))
  | _ :: as, _ :: rs, ρ => putBack ρ0 as rs ρ
  | _, _, ρ => ρ
def outR : R → R
  | .io k d => .io k d
  | _ => .un
def arR (ρ : Env) : List Ar → Option (List R)
  | [] => some []
  | .now d :: r => (arR ρ r).map (.val d :: ·)
  | .io i :: r => (ioR ρ i).bind fun x => (arR ρ r).map (x :: ·)
  | .scr i :: r => (scrOf ρ i).bind fun x => (arR ρ r).map (.scr x :: ·)
  | .exc i :: r => (excOf ρ i).bind fun x => (arR ρ r).map (.exc x :: ·)
def resto (ρ1 : Env) : List Nat → Env → Env
  | [], ρ => ρ
  | i :: is, ρ => resto ρ1 is (ρ.set i (match slot ρ1 i with
    | .val d => .val d
    | _ => .un))
def boolOf : D → Option Bool
  | .bool b => some b
  | _ => none
def numOf : D → Option Int
  | .int i => some i
  | .bool b => some (b2i b)
  | _ => none
def intOf : D → Option Int
  | .int i => some i
  | _ => none
def rngOk (i : Int) : Bool := decide (-16777216 ≤ i ∧ i ≤ 16777216)
/-- range(m, n, s), k items -/
def stepTo (m s : Int) (k : Nat) : List D := (List.range k).map fun (t : Nat) => PyData.int (m + (t : Nat) * s)
def stepOk (m n s : Int) (k : Nat) : Bool := decide (s ≠ 0) && decide (s.natAbs < 1073741824) && Builtin.Range.small m n s && decide (Builtin.Range.rangeSize m n s = (k : Nat)) && decide (k ≤ 16777216)
def enumD : Nat → List D → List D
  | _, [] => []
  | n, d :: ds => .tuple [.int n, d] :: enumD (n + 1) ds
def zipD : List D → List D → List D
  | a :: as, b :: bs => .tuple [a, b] :: zipD as bs
  | _, _ => []
def head? : List D → Option D
  | [] => none
  | d :: _ => some d
def isLst : R → Bool
  | .own _ (.list _) => true
  | .io _ (.list _) => true
  | _ => false
/-- the same, to the letter -/
def sameD (a b : D) : Bool := @decide (a = b) (Classical.propDecidable _)
mutual
/-- nothing in it that can change -/
def noL : D → Bool
  | .none => true
  | .bool _ => true
  | .int _ => true
  | .str _ => true
  | .tuple l => noLs l
  | .list _ => false
  | .dict _ => false
def noLs : List D → Bool
  | [] => true
  | d :: ds => noL d && noLs ds
end
/-- a slot holds nothing of what was lent -/
def bk : R → R → Bool
  | _, .un => true
  | .val d, .val d' => sameD d d' || noL d'
  | _, .val d' => noL d'
  | _, .own k (.list l) => decide (k = 1) && noLs l
  | _, .io k (.list l) => decide (k = 1) && noLs l
  | _, .scr _ => true
  | _, .exc _ => true
  | _, _ => false
def backOk : Env → Env → Bool
  | [], [] => true
  | r :: rs, q :: qs => bk r q && backOk rs qs
  | _, _ => false
/-- a part of a slice -/
def partE (k : Env → Option (List D × Env)) (ρ : Env) : Option (Option Int × Env) := (k ρ).bind fun q => (optI (head? q.1)).bind fun o => some (o, q.2)
section
variable (C : Calls) (G : Nat → D)
mutual
def evE : Ex → Env → Option (D × Env)
  | .non, ρ => some (.none, ρ)
  | .bl b, ρ => some (.bool b, ρ)
  | .int i, ρ => some (.int i, ρ)
  | .str x, ρ => some (.str x, ρ)
  | .var i, ρ => (match slot ρ i with
    | .val d => some (d, ρ)
    | .own _ d => some (d, ρ.set i (.val d))
    | _ => none)
  | .mv i k, ρ => (match slot ρ i with
    | .own k' d => if k ≤ k' then some (d, ρ.set i .un) else none
    | _ => none)
  | .io _, _ => none
  | .sarg _, _ => none
  | .sidx i e, ρ => (scrOf ρ i).bind fun l => (evE e ρ).bind fun p => (intOf p.1).bind fun n => (atI l n).bind fun z => some (.int z, p.2)
  | .slen i, ρ => (scrOf ρ i).bind fun l => some (.int l.length, ρ)
  | .pth i p, ρ => (viewR (slot ρ i)).bind fun x => (walkP ρ p x.1 x.2).bind fun y => if y.1 = 0 then some (y.2, ρ) else none
  | .glob g, ρ => some (G g, ρ)
  | .bin o a b, ρ => (opE a (evE a) ρ).bind fun p => (opE b (evE b) p.2).bind fun q => (vw q.2 p.1).bind fun x => (vw q.2 q.1).bind fun y =>
      if x.1 ≤ 1 ∧ y.1 ≤ 1 then (binD o x.2 y.2).bind fun z => some (z, q.2) else none
  | .neg a, ρ => (evE a ρ).bind fun p => (numOf p.1).bind fun i => some (.int (-i), p.2)
  | .cmp o a b, ρ => (opE a (evE a) ρ).bind fun p => (opE b (evE b) p.2).bind fun q => (vw q.2 p.1).bind fun x => (vw q.2 q.1).bind fun y =>
      (cmpD o x.2 y.2).bind fun z => some (.bool z, q.2)
  | .chn o o' a b c, ρ => (opE a (evE a) ρ).bind fun p => (opE b (evE b) p.2).bind fun q => (vw q.2 p.1).bind fun x => (vw q.2 q.1).bind fun y =>
      (cmpD o x.2 y.2).bind fun z => if z then (opE c (evE c) q.2).bind fun r => (vw r.2 q.1).bind fun y => (vw r.2 r.1).bind fun w => (cmpD o' y.2 w.2).bind fun z => some (.bool z, r.2)
        else some (.bool false, q.2)
  | .and es, ρ => evAnd es ρ
  | .or es, ρ => evOr es ρ
  | .not a, ρ => (evE a ρ).bind fun p => (boolOf p.1).bind fun b => some (.bool (!b), p.2)
  | .ite c a b, ρ => (evE c ρ).bind fun p => (boolOf p.1).bind fun z => if z then evE a p.2 else evE b p.2
  | .tup es, ρ => (evL es ρ).bind fun p => some (.tuple p.1, p.2)
  | .lst es, ρ => (evL es ρ).bind fun p => some (.list p.1, p.2)
  | .idx a i, ρ => (opE a (evE a) ρ).bind fun p => (opE i (evE i) p.2).bind fun q => (vw q.2 p.1).bind fun x => (vw q.2 q.1).bind fun y =>
      if x.1 ≤ 1 then (idxD x.2 y.2).bind fun z => some (z, q.2) else none
  | .slc a lo hi, ρ => (opE a (evE a) ρ).bind fun p => (partE (evL lo) p.2).bind fun q => (partE (evL hi) q.2).bind fun r => (vw r.2 p.1).bind fun x =>
      if x.1 ≤ 1 then (slcD x.2 q.1 r.1).bind fun z => some (z, r.2) else none
  | .rev a, ρ => (op1 a (evE a) ρ).bind fun p => if p.1.1 ≤ 1 then (match p.1.2 with
      | .list l => some (.list l.reverse, p.2)
      | .tuple l => some (.tuple l.reverse, p.2)
      | _ => none) else none
  | .comp e t it cs own, ρ => (evI it ρ).bind fun p => (compL (fun d ρ => (bindT t d ρ).bind fun ρ2 => (evAnd cs ρ2).bind fun c => (boolOf c.1).bind fun z =>
      if z then (evE e c.2).bind fun x => some (some x.1, kills x.2 own) else some (none, kills c.2 own)) p.1 (kills p.2 own)).bind fun q => some (.list q.1, resto p.2 own q.2)
  | .call f as, ρ => (evA as ρ).bind fun p => if ioOk p.1 then (arR p.2 p.1).bind fun rs => (C f rs).bind fun q => some (q.1, putBack p.2 p.1 q.2 (dropI p.1 p.2)) else none
  | .blt b a, ρ => (op1 a (evE a) ρ).bind fun p => if p.1.1 ≤ 1 ∨ b = .len then (bltD b p.1.2).bind fun z => some (z, p.2) else none
  | .blt2 b a c, ρ => (evE a ρ).bind fun p => (evE c p.2).bind fun q => (blt2D b p.1 q.1).bind fun z => some (z, q.2)
  | .lrng a, ρ => (evE a ρ).bind fun p => (intOf p.1).bind fun n => if rngOk n then some (.list (upTo 0 n.toNat), p.2) else none
  | .isi a ts _, ρ => (op1 a (evE a) ρ).bind fun p => some (.bool (ts.any fun t => isTy t p.1.2), p.2)
  | .mth m o as, ρ => (opE o (evE o) ρ).bind fun p => (vw p.2 p.1).bind fun y => if rcOk m y.2 = true then (evL as p.2).bind fun q => (vw q.2 p.1).bind fun x => if x.1 ≤ 1 then (mthD m x.2 q.1).bind fun z => some (z, q.2) else none else none
  | .pop i e, ρ => if isLst (slot ρ i) then (evE e ρ).bind fun q => (intOf q.1).bind fun n => (viewR (slot q.2 i)).bind fun x => (idxD x.2 (.int n)).bind fun z =>
      (chgR q.2 (fun k l => if k = 0 then (ixAt l.length n).bind fun j => some (l.eraseIdx j) else none) [] (slot q.2 i)).bind fun r => some (z, q.2.set i r) else none
  | .tget g e, ρ => (evE e ρ).bind fun p => (keyD p.1).bind fun z => ((tabs g).lookup z).bind fun d => some (d, p.2)
  | .tmem g e, ρ => (evE e ρ).bind fun p => (keyD p.1).bind fun z => some (.bool ((tabs g).lookup z).isSome, p.2)
  | .dsp ks vs e, ρ => (evL vs ρ).bind fun q => if q.1.length = ks.length then (evE e q.2).bind fun p => (keyD p.1).bind fun z => ((ks.zip q.1).lookup z).bind fun d => some (d, p.2) else none
  | .dspd ks vs e x, ρ => (evL vs ρ).bind fun q => if q.1.length = ks.length then (evE e q.2).bind fun p => (keyD p.1).bind fun z => (evE x p.2).bind fun r => some (((ks.zip q.1).lookup z).getD r.1, r.2) else none
  | .chn3 o o' o2 a b c d, ρ => (opE a (evE a) ρ).bind fun p => (opE b (evE b) p.2).bind fun q => (vw q.2 p.1).bind fun x => (vw q.2 q.1).bind fun y =>
      (cmpD o x.2 y.2).bind fun z => if z then (opE c (evE c) q.2).bind fun r => (vw r.2 q.1).bind fun y => (vw r.2 r.1).bind fun w => (cmpD o' y.2 w.2).bind fun z =>
        if z then (opE d (evE d) r.2).bind fun t => (vw t.2 r.1).bind fun w => (vw t.2 t.1).bind fun u => (cmpD o2 w.2 u.2).bind fun z => some (.bool z, t.2) else some (.bool false, r.2)
        else some (.bool false, q.2)
  | .setlen a, ρ => (op1 a (evE a) ρ).bind fun p => if p.1.1 ≤ 1 then (setlenD p.1.2).bind fun z => some (z, p.2) else none
  | .sset _, _ => none
  | .ixs o as, ρ => (opE o (evE o) ρ).bind fun p => (vw p.2 p.1).bind fun y => if rcOk .index y.2 = true then (evL as p.2).bind fun q => (vw q.2 p.1).bind fun x => if x.1 ≤ 1 then (index3L x.2 q.1).bind fun z => some (z, q.2) else none else none
  | .lnd2 i j e, ρ => (match slot ρ i with
    | .own k d => (match slot ρ j with
      | .own k' d' => if i = j then none else (evE e ((ρ.set i (.val d)).set j (.val d'))).bind fun p => if (flatD p.1 && backOk ((ρ.set i (.val d)).set j (.val d')) p.2) = true then some (p.1, (p.2.set j (.own k' d')).set i (.own k d)) else none
      | _ => none)
    | _ => none)
  | .lnd i e, ρ => (match slot ρ i with
    | .own k d => (evE e (ρ.set i (.val d))).bind fun p => if (flatD p.1 && backOk (ρ.set i (.val d)) p.2) = true then some (p.1, p.2.set i (.own k d)) else none
    | _ => (evE e ρ).bind fun p => if flatD p.1 = true then some p else none)
  | .isx i cs, ρ => (excOf ρ i).bind fun c => some (.bool (cs.any (subC c)), ρ)
  | .xnon i, ρ => (match slot ρ i with
    | .exc _ => some (.bool false, ρ)
    | .val d => some (.bool (isNon d), ρ)
    | _ => none)
  | .xarg _, _ => none
  | .trng a, ρ => (evE a ρ).bind fun p => (intOf p.1).bind fun n => if rngOk n then some (.tuple (upTo 0 n.toNat), p.2) else none
  | .stuck, _ => none
def evAnd : Exs → Env → Option (D × Env)
  | .nil, ρ => some (.bool true, ρ)
  | .cons e es, ρ => (evE e ρ).bind fun p => (boolOf p.1).bind fun b => if b then evAnd es p.2 else some (.bool false, p.2)
def evOr : Exs → Env → Option (D × Env)
  | .nil, ρ => some (.bool false, ρ)
  | .cons e es, ρ => (evE e ρ).bind fun p => (boolOf p.1).bind fun b => if b then some (.bool true, p.2) else evOr es p.2
def evL : Exs → Env → Option (List D × Env)
  | .nil, ρ => some ([], ρ)
  | .cons e es, ρ => (evE e ρ).bind fun p => (evL es p.2).bind fun q => some (p.1 :: q.1, q.2)
def evA : Exs → Env → Option (List Ar × Env)
  | .nil, ρ => some ([], ρ)
  | .cons e es, ρ => (match e with
    | .io i => (ioR ρ i).bind fun _ => some (Ar.io i, ρ)
    | .sarg i => (scrOf ρ i).bind fun _ => some (Ar.scr i, ρ)
    | .xarg i => (match slot ρ i with
      | .exc _ => some (Ar.exc i, ρ)
      | .val d => some (Ar.now d, ρ)
      | _ => none)
    | _ => (evE e ρ).bind fun p => some (.now p.1, p.2)).bind fun p => (evA es p.2).bind fun q => some (p.1 :: q.1, q.2)
def evI : It → Env → Option (List D × Env)
  | .seq e, ρ => (evE e ρ).bind fun p => (seqOf p.1).bind fun l => some (l, p.2)
  | .rng a, ρ => (evE a ρ).bind fun p => (intOf p.1).bind fun n => if rngOk n then some (upTo 0 n.toNat, p.2) else none
  | .rng2 a b, ρ => (evE a ρ).bind fun p => (intOf p.1).bind fun m => (evE b p.2).bind fun q => (intOf q.1).bind fun n => if rngOk m && rngOk n && rngOk (n - m) then some (upTo m (n - m).toNat, q.2) else none
  | .rng3 a b c, ρ => (evE a ρ).bind fun p => (intOf p.1).bind fun m => (evE b p.2).bind fun q => (intOf q.1).bind fun n => (evE c q.2).bind fun r => (intOf r.1).bind fun s =>
      if stepOk m n s (Builtin.Range.rangeSize m n s).toNat then some (stepTo m s (Builtin.Range.rangeSize m n s).toNat, r.2) else none
  | .enum e, ρ => (evE e ρ).bind fun p => (match p.1 with
    | .list l => some (enumD 0 l, p.2)
    | .tuple l => some (enumD 0 l, p.2)
    | _ => none)
  | .zip a b, ρ => (evE a ρ).bind fun p => (evE b p.2).bind fun q => (match p.1, q.1 with
    | .list x, .list y => some (zipD x y, q.2)
    | .tuple x, .tuple y => some (zipD x y, q.2)
    | _, _ => none)
end
def killR (ks : List Nat) : Res → Res
  | .nx ρ => .nx (kills ρ ks)
  | .rt d ρ => .rt d ρ
  | .bk ρ => .bk (kills ρ ks)
  | .ct ρ => .ct (kills ρ ks)
def forL (f : D → Env → Option Res) (ks : List Nat) : List D → Env → Option Res
  | [], ρ => some (.nx ρ)
  | d :: ds, ρ => (f d ρ).bind fun r => match r with
    | .nx ρ' => forL f ks ds (kills ρ' ks)
    | .ct ρ' => forL f ks ds (kills ρ' ks)
    | .bk ρ' => some (.nx (kills ρ' ks))
    | .rt d ρ' => some (.rt d ρ')
def whlL (c : Env → Option (D × Env)) (b : Env → Option Res) (ks : List Nat) : Nat → Env → Option Res
  | 0, _ => none
  | n + 1, ρ => (c ρ).bind fun p => (boolOf p.1).bind fun z => if z then (b p.2).bind fun r => match r with
      | .nx ρ' => whlL c b ks n (kills ρ' ks)
      | .ct ρ' => whlL c b ks n (kills ρ' ks)
      | .bk ρ' => some (.nx (kills ρ' ks))
      | .rt d ρ' => some (.rt d ρ')
    else some (.nx p.2)
def whlMax : Nat := 16777216
def sizeOk (n : Nat) : Bool := decide (n < 16777216)
end
/-- how deep an expression's value is the frame's own; O: of what the defs hand back -/
def owC (O : Nat → Nat) : Ex → Nat
  | .mv _ k => k
  | .call f _ => O f
  | .var _ => 0 | .pth _ _ => 0 | .glob _ => 0 | .idx _ _ => 0 | .pop _ _ => 0 | .io _ => 0 | .tget _ _ => 0 | .dsp _ _ _ => 0 | .dspd _ _ _ _ => 0
  | .bin _ _ _ => 1 | .slc _ _ _ => 1 | .rev _ => 1 | .blt _ _ => 1 | .mth _ _ _ => 1
  | .lst _ => 1 | .comp _ _ _ _ _ => 1 | .ite _ _ _ => 0
  | _ => 9
mutual
def ow (O : Nat → Nat) : Ex → Nat
  | .lst es => owL O es + 1
  | .comp e _ _ _ _ => ow O e + 1
  | .ite _ a b => min (ow O a) (ow O b)
  | e => owC O e
def owL (O : Nat → Nat) : Exs → Nat
  | .nil => 8
  | .cons e es => min (ow O e) (owL O es)
end
section
variable (C : Calls) (G : Nat → D) (O : Nat → Nat)
def exAt : Ex → Option At
  | .int n => some (.n n)
  | .var i => some (.v i)
  | _ => none
def setD (e : Ex) (n : Int) (d : D) (k : Nat) (l : List D) : Option (List D) := if k ≤ ow O e then (ixAt l.length n).bind fun j => some (l.set j d) else none
/-- the class that a call lets out (told at the def's number and this) -/
def rsK : Nat := 1000000
def rclO : Option (D × List R) → Option Str
  | some (.str c, _) => some c
  | _ => none
def rsC (f : Nat) (as : Exs) (ρ : Env) : Option (Str × Env) := (evA C G as ρ).bind fun p => if ioOk p.1 then (arR p.2 p.1).bind fun rs => (rclO (C (f + rsK) rs)).bind fun c => some (c, putBack p.2 p.1 (rs.map fun _ => .un) (dropI p.1 p.2)) else none
/-- how a method changes a list -/
def mutD : Mut → Exs → List D → Nat → List D → Option (List D)
  | .append, .cons e .nil, [d], k, l => if k ≤ ow O e ∧ sizeOk l.length then some (l ++ [d]) else none
  | .extend, .cons _ .nil, [.list x], k, l => if k = 0 ∧ fits (l.length + x.length) then some (l ++ x) else none
  | .insert, .cons _ (.cons _ .nil), [.int n, d], k, l => if k = 0 ∧ 0 ≤ n ∧ n < 9223372036854775808 ∧ sizeOk l.length then some (l.take n.toNat ++ [d] ++ l.drop n.toNat) else none
  | .reverse, .nil, [], _, l => some l.reverse
  | .clear, .nil, [], _, _ => some []
  | _, _, _, _, _ => none
mutual
def evS : Sm → Env → Option Res
  | .asg k i e, ρ => (evE C G e ρ).bind fun p => (putR p.2 i (mkR k p.1)).bind fun ρ' => some (.nx ρ')
  | .asgT ts e, ρ => (evE C G e ρ).bind fun p => (match p.1 with
    | .tuple l => (bindTs ts l p.2).bind fun ρ' => some (.nx ρ')
    | .list l => (bindTs ts l p.2).bind fun ρ' => some (.nx ρ')
    | _ => none)
  | .par i j a b ki kj, ρ => (evE C G a ρ).bind fun p => (evE C G b p.2).bind fun q => (putR q.2 i (mkR ki p.1)).bind fun ρ1 => (putR ρ1 j (mkR kj q.1)).bind fun ρ2 => some (.nx ρ2)
  | .aug i e, ρ => (match slot ρ i with
    | .val (.int a) => (evE C G e ρ).bind fun p => (intOf p.1).bind fun b => (putR p.2 i (.val (.int (a + b)))).bind fun ρ' => some (.nx ρ')
    | _ => none)
  | .expr e, ρ => (evE C G e ρ).bind fun p => some (.nx p.2)
  | .mut i p m as, ρ => if isLst (slot ρ i) then (match p with
    | [] => (evL C G as ρ).bind fun q => (chgR q.2 (mutD O m as q.1) [] (slot q.2 i)).bind fun r => some (.nx (q.2.set i r))
    | a :: p => (evL C G as (ρ.set i .un)).bind fun q => (chgR ρ (mutD O m as q.1) (a :: p) (slot ρ i)).bind fun r => some (.nx (q.2.set i r))) else none
  | .seti i p x e, ρ => (evE C G e ρ).bind fun q => (match p with
    | [] => if isLst (slot q.2 i) then (evE C G x q.2).bind fun y => (intOf y.1).bind fun n => (chgR y.2 (setD O e n q.1) [] (slot y.2 i)).bind fun r => some (.nx (y.2.set i r)) else none
    | a :: p => (exAt x).bind fun y => (atI? q.2 y).bind fun n => (chgR q.2 (setD O e n q.1) (a :: p) (slot q.2 i)).bind fun r => some (.nx (q.2.set i r)))
  | .augi i x e, ρ => if isLst (slot ρ i) then (evE C G x ρ).bind fun y => (intOf y.1).bind fun n => (viewR (slot y.2 i)).bind fun v => if v.1 = 1 ∧ 0 ≤ n ∧ isLst (slot y.2 i) = true then (idxD v.2 (.int n)).bind fun d0 => (intOf d0).bind fun m => (evE C G e y.2).bind fun q => (intOf q.1).bind fun t =>
      (chgR q.2 (fun k l => if k = 0 then (ixAt l.length n).bind fun j => some (l.set j (.int (m + t))) else none) [] (slot q.2 i)).bind fun r => some (.nx (q.2.set i r)) else none else none
  | .ite c a b ks, ρ => (evE C G c ρ).bind fun p => (boolOf p.1).bind fun z => if z then (evSs a p.2).bind fun r => some (killR ks r) else (evSs b p.2).bind fun r => some (killR ks r)
  | .for_ t it b ks, ρ => (evI C G it ρ).bind fun p => forL (fun d ρ => (bindT t d ρ).bind fun ρ' => evSs b ρ') ks p.1 (kills p.2 ks)
  | .whl c b ks, ρ => whlL (evE C G c) (evSs b) ks whlMax (kills ρ ks)
  | .ret e, ρ => (evE C G e ρ).bind fun p => some (.rt p.1 p.2)
  | .retN, ρ => some (.rt .none ρ)
  | .pass, ρ => some (.nx ρ)
  | .brk, ρ => some (.bk ρ)
  | .cont, ρ => some (.ct ρ)
  | .stuck, _ => none
  | .mvl x es k b ks, ρ => (evL C G es ρ).bind fun p => forL (fun d ρ => (putR ρ x (mkR k d)).bind fun ρ' => evSs b ρ') ks p.1 (kills p.2 ks)
  | .rse _, _ => none
  | .trx b c i j, ρ => (match evSs b ρ with
    | some r => some r
    | none => (rsSs b ρ).bind fun p => if subC p.1 c then (excR p.2 i j p.1).bind fun ρ' => some (.nx ρ') else none)
  | .par3 i j l es, ρ => (evL C G es ρ).bind fun p => (match p.1 with
    | [x, y, z] => (putR p.2 i (.val x)).bind fun ρ1 => (putR ρ1 j (.val y)).bind fun ρ2 => (putR ρ2 l (.val z)).bind fun ρ3 => some (.nx ρ3)
    | _ => none)
def evSs : Sms → Env → Option Res
  | .nil, ρ => some (.nx ρ)
  | .cons s ss, ρ => (evS s ρ).bind fun r => match r with
    | .nx ρ' => evSs ss ρ'
    | .rt d ρ' => some (.rt d ρ')
    | .bk ρ' => some (.bk ρ')
    | .ct ρ' => some (.ct ρ')
/-- a statement that refuses: the class, the slots at that moment -/
def rsS : Sm → Env → Option (Str × Env)
  | .rse c, ρ => some (c, ρ)
  | .asg _ _ (.call f as), ρ => rsC C G f as ρ
  | .asgT _ (.call f as), ρ => rsC C G f as ρ
  | .expr (.call f as), ρ => rsC C G f as ρ
  | .ret (.call f as), ρ => rsC C G f as ρ
  | .ret (.comp _ _ (.seq (.call f as)) _ _), ρ => rsC C G f as ρ
  | .ite c a b _, ρ => (evE C G c ρ).bind fun p => (boolOf p.1).bind fun z => if z then rsSs a p.2 else rsSs b p.2
  | _, _ => none
def rsSs : Sms → Env → Option (Str × Env)
  | .nil, _ => none
  | .cons s ss, ρ => (match evS s ρ with
    | some (.nx ρ') => rsSs ss ρ'
    | some _ => none
    | none => rsS s ρ)
end
end
/-- a def: how many parameters, how many names, how deep its answer is the caller's own -/
structure MDef where
  np : Nat
  nl : Nat
  own : Nat
  body : Sms
abbrev Tab := Nat → Option MDef
def ownT (T : Tab) (f : Nat) : Nat := match T f with
  | some m => m.own
  | none => 0
def outs (n : Nat) (ρ : Env) : List R := (List.range n).map fun i => outR (slot ρ i)
def endOf (np : Nat) : Res → Option (D × List R)
  | .rt d ρ => some (d, outs np ρ)
  | .nx ρ => some (.none, outs np ρ)
  | _ => none
def callN (T : Tab) (G : Nat → D) : Nat → Calls
  | 0 => fun _ _ => none
  | n + 1 => fun f rs => match T f with
    | some m => if rs.length = m.np then (evSs (callN T G n) G (ownT T) m.body (rs ++ List.replicate (m.nl - m.np) .un)).bind (endOf m.np) else none
    | none => if f < rsK then none else (T (f - rsK)).bind fun m => if rs.length = m.np then (rsSs (callN T G n) G (ownT T) m.body (rs ++ List.replicate (m.nl - m.np) .un)).bind fun p => some (.str p.1, []) else none
end
end BW

/-! BwRel: how values of the small language lie in the layer's heap. -/
namespace BW
noncomputable section
open PySem PySem.Spec PyProof.Rows L2
abbrev AS := Addr → Prop
/-- a list that is not changed any more -/
def StL (H : Hp) (Z : AS) (a : Addr) (vs : List V) : Prop := H a = some (.lst vs) ∧ Z a
section
variable (K : PySem.W.Frag)
section
variable (H : Hp) (Z : AS)
mutual
/-- d lies at v, for good -/
def Fz : D → V → Prop
  | .none, v => v = .non
  | .bool b, v => v = .bl b
  | .int i, v => v = .int i
  | .str x, v => v = .str x
  | .list l, v => ∃ a vs, v = .ref a ∧ StL H Z a vs ∧ FzL l vs
  | .tuple l, v => ∃ a vs, v = .ref a ∧ SqT K H a vs ∧ FzL l vs
  | .dict _, _ => False
def FzL : List D → List V → Prop
  | [], vs => vs = []
  | d :: ds, vs => ∃ v ws, vs = v :: ws ∧ Fz d v ∧ FzL ds ws
end
mutual
/-- d lies at v, its lists to depth k at T and nobody else's -/
def Ow : D → Nat → V → AS → Prop
  | .list l, k + 1, v, T => ∃ a vs T', v = .ref a ∧ H a = some (.lst vs) ∧ ¬ T' a ∧ OwL l k vs T' ∧ ∀ b, T b ↔ (b = a ∨ T' b)
  | .list l, 0, v, T => (∃ a vs, v = .ref a ∧ StL H Z a vs ∧ FzL K H Z l vs) ∧ ∀ a, ¬ T a
  | .none, _, v, T => v = .non ∧ ∀ a, ¬ T a
  | .bool b, _, v, T => v = .bl b ∧ ∀ a, ¬ T a
  | .int i, _, v, T => v = .int i ∧ ∀ a, ¬ T a
  | .str x, _, v, T => v = .str x ∧ ∀ a, ¬ T a
  | .tuple l, _, v, T => (∃ a vs, v = .ref a ∧ SqT K H a vs ∧ FzL K H Z l vs) ∧ ∀ a, ¬ T a
  | .dict _, _, _, _ => False
def OwL : List D → Nat → List V → AS → Prop
  | [], _, vs, T => vs = [] ∧ ∀ a, ¬ T a
  | d :: ds, k, vs, T => ∃ v ws T1 T2, vs = v :: ws ∧ Ow d k v T1 ∧ OwL ds k ws T2 ∧ (∀ a, T1 a → ¬ T2 a) ∧ ∀ a, T a ↔ (T1 a ∨ T2 a)
end
end
variable {K}
theorem StL.mono {H H' : Hp} {Z Z' : AS} {a : Addr} {vs : List V} (h : StL H Z a vs) (kz : ∀ a o, H a = some o → (Z a ∨ ∀ xs, o ≠ .lst xs) → H' a = some o) (zz : ∀ a, Z a → Z' a) : StL H' Z' a vs := by
  obtain ⟨h, z⟩ := h
  exact ⟨kz _ _ h (.inl z), zz _ z⟩
theorem sqT_mono {H H' : Hp} {a : Addr} {vs : List V} (h : SqT K H a vs) (kz : ∀ a o, H a = some o → (∀ xs, o ≠ .lst xs) → H' a = some o) : SqT K H' a vs := by
  rcases h with h | h
  · rcases h with h | ⟨o, h⟩
    · exact .inl (.inl (kz _ _ h fun xs e => by cases e))
    · exact .inl (.inr ⟨o, kz _ _ h fun xs e => by cases e⟩)
  · exact .inr h
mutual
theorem Fz.mono {H H' : Hp} {Z Z' : AS} (kz : ∀ a o, H a = some o → (Z a ∨ ∀ xs, o ≠ .lst xs) → H' a = some o) (zz : ∀ a, Z a → Z' a) : ∀ {d : D} {v : V}, Fz K H Z d v → Fz K H' Z' d v
  | .none, _, h => h
  | .bool _, _, h => h
  | .int _, _, h => h
  | .str _, _, h => h
  | .list l, v, h => by
    unfold Fz at h ⊢
    obtain ⟨a, vs, e, s, q⟩ := h
    exact ⟨a, vs, e, s.mono kz zz, FzL.mono kz zz q⟩
  | .tuple l, v, h => by
    unfold Fz at h ⊢
    obtain ⟨a, vs, e, s, q⟩ := h
    exact ⟨a, vs, e, sqT_mono s fun a o e n => kz a o e (.inr n), FzL.mono kz zz q⟩
  | .dict _, _, h => by unfold Fz at h; exact h.elim
theorem FzL.mono {H H' : Hp} {Z Z' : AS} (kz : ∀ a o, H a = some o → (Z a ∨ ∀ xs, o ≠ .lst xs) → H' a = some o) (zz : ∀ a, Z a → Z' a) : ∀ {l : List D} {vs : List V}, FzL K H Z l vs → FzL K H' Z' l vs
  | [], _, h => h
  | d :: ds, vs, h => by
    unfold FzL at h ⊢
    obtain ⟨v, ws, e, h1, h2⟩ := h
    exact ⟨v, ws, e, Fz.mono kz zz h1, FzL.mono kz zz h2⟩
end
mutual
theorem Ow.mono {H H' : Hp} {Z Z' : AS} (zz : ∀ a, Z a → Z' a) : ∀ {d : D} {k : Nat} {v : V} {T : AS}, Ow K H Z d k v T → (∀ a o, H a = some o → (Z a ∨ T a ∨ ∀ xs, o ≠ .lst xs) → H' a = some o) → Ow K H' Z' d k v T
  | .none, _, _, _, h, _ => h
  | .bool _, _, _, _, h, _ => h
  | .int _, _, _, _, h, _ => h
  | .str _, _, _, _, h, _ => h
  | .list l, 0, v, T, h, kz => by
    unfold Ow at h ⊢
    obtain ⟨⟨a, vs, e, s, q⟩, t⟩ := h
    have kz' : ∀ a o, H a = some o → (Z a ∨ ∀ xs, o ≠ .lst xs) → H' a = some o := fun a o e h => kz a o e (h.elim .inl fun h => .inr (.inr h))
    exact ⟨⟨a, vs, e, s.mono kz' zz, FzL.mono kz' zz q⟩, t⟩
  | .list l, k + 1, v, T, h, kz => by
    unfold Ow at h ⊢
    obtain ⟨a, vs, T', e, ha, na, q, t⟩ := h
    exact ⟨a, vs, T', e, kz _ _ ha (.inr (.inl ((t a).2 (.inl rfl)))), na, OwL.mono zz q fun b o e hb => kz b o e (hb.elim .inl fun hb => .inr (hb.elim (fun z => .inl ((t b).2 (.inr z))) .inr)), t⟩
  | .tuple l, k, v, T, h, kz => by
    unfold Ow at h ⊢
    obtain ⟨⟨a, vs, e, s, q⟩, t⟩ := h
    have kz' : ∀ a o, H a = some o → (Z a ∨ ∀ xs, o ≠ .lst xs) → H' a = some o := fun a o e h => kz a o e (h.elim .inl fun h => .inr (.inr h))
    exact ⟨⟨a, vs, e, sqT_mono s fun a o e n => kz a o e (.inr (.inr n)), FzL.mono kz' zz q⟩, t⟩
  | .dict _, _, _, _, h, _ => by unfold Ow at h; exact h.elim
theorem OwL.mono {H H' : Hp} {Z Z' : AS} (zz : ∀ a, Z a → Z' a) : ∀ {l : List D} {k : Nat} {vs : List V} {T : AS}, OwL K H Z l k vs T → (∀ a o, H a = some o → (Z a ∨ T a ∨ ∀ xs, o ≠ .lst xs) → H' a = some o) → OwL K H' Z' l k vs T
  | [], _, _, _, h, _ => h
  | d :: ds, k, vs, T, h, kz => by
    unfold OwL at h ⊢
    obtain ⟨v, ws, T1, T2, e, h1, h2, dj, t⟩ := h
    exact ⟨v, ws, T1, T2, e, Ow.mono zz h1 fun b o e hb => kz b o e (hb.elim .inl fun hb => .inr (hb.elim (fun z => .inl ((t b).2 (.inl z))) .inr)),
      OwL.mono zz h2 fun b o e hb => kz b o e (hb.elim .inl fun hb => .inr (hb.elim (fun z => .inl ((t b).2 (.inr z))) .inr)), dj, t⟩
end
/-- at depth 0 -/
theorem ow_zero {H : Hp} {Z : AS} {d : D} {v : V} {T : AS} : Ow K H Z d 0 v T ↔ (Fz K H Z d v ∧ ∀ a, ¬ T a) := by
  cases d <;> simp only [Ow, Fz, false_and]
/-- what is no list -/
theorem ow_any {H : Hp} {Z : AS} {d : D} {v : V} {T : AS} (h : Fz K H Z d v) (n : ∀ l, d ≠ .list l) (t : ∀ a, ¬ T a) (k : Nat) : Ow K H Z d k v T := by
  cases d with
  | list l => exact absurd rfl (n l)
  | none => exact ⟨h, t⟩
  | bool b => exact ⟨h, t⟩
  | int b => exact ⟨h, t⟩
  | str b => exact ⟨h, t⟩
  | tuple l => unfold Fz at h; unfold Ow; exact ⟨h, t⟩
  | dict _ => unfold Fz at h; exact h.elim
mutual
/-- part of what is owned is given away -/
theorem Ow.weak {H : Hp} {Z : AS} : ∀ {d : D} {k j : Nat} {v : V} {T : AS}, Ow K H Z d k v T → j ≤ k → ∃ T', (∀ a, T' a → T a) ∧ Ow K H (fun a => Z a ∨ (T a ∧ ¬ T' a)) d j v T'
  | .none, _, _, _, T, h, _ => ⟨T, fun _ z => z, h⟩
  | .bool _, _, _, _, T, h, _ => ⟨T, fun _ z => z, h⟩
  | .int _, _, _, _, T, h, _ => ⟨T, fun _ z => z, h⟩
  | .str _, _, _, _, T, h, _ => ⟨T, fun _ z => z, h⟩
  | .list l, 0, j, v, T, h, hj => by
    obtain rfl : j = 0 := Nat.le_zero.mp hj
    exact ⟨T, fun _ z => z, h.mono (fun a z => .inl z) fun _ _ e _ => e⟩
  | .list l, k + 1, 0, v, T, h, _ => by
    unfold Ow at h
    obtain ⟨a, vs, T', e, ha, na, q, t⟩ := h
    obtain ⟨U, hU, q'⟩ := OwL.weak q (Nat.zero_le k)
    refine ⟨fun _ => False, fun _ z => z.elim, ?_⟩
    unfold Ow
    refine ⟨⟨a, vs, e, ⟨ha, .inr ⟨(t a).2 (.inl rfl), id⟩⟩, ?_⟩, fun _ z => z⟩
    exact FzL.mono (fun _ _ e _ => e) (fun b z => z.elim .inl fun z => .inr ⟨(t b).2 (.inr z.1), id⟩) (owL_zero.1 q').1
  | .list l, k + 1, j + 1, v, T, h, hj => by
    unfold Ow at h
    obtain ⟨a, vs, T', e, ha, na, q, t⟩ := h
    obtain ⟨U, hU, q'⟩ := OwL.weak q (Nat.le_of_succ_le_succ hj)
    refine ⟨fun b => b = a ∨ U b, fun b z => (t b).2 (z.elim .inl fun z => .inr (hU b z)), ?_⟩
    unfold Ow
    refine ⟨a, vs, U, e, ha, fun z => na (hU a z), ?_, fun b => Iff.rfl⟩
    refine q'.mono (fun b z => z.elim .inl fun z => .inr ⟨(t b).2 (.inr z.1), fun y => ?_⟩) fun _ _ e _ => e
    rcases y with rfl | y
    · exact na z.1
    · exact z.2 y
  | .tuple l, k, j, v, T, h, _ => by
    refine ⟨T, fun _ z => z, ?_⟩
    unfold Ow at h ⊢
    obtain ⟨⟨a, vs, e, s, q⟩, t⟩ := h
    exact ⟨⟨a, vs, e, s, q.mono (fun _ _ e _ => e) fun a z => .inl z⟩, t⟩
  | .dict _, _, _, _, _, h, _ => by unfold Ow at h; exact h.elim
theorem OwL.weak {H : Hp} {Z : AS} : ∀ {l : List D} {k j : Nat} {vs : List V} {T : AS}, OwL K H Z l k vs T → j ≤ k → ∃ T', (∀ a, T' a → T a) ∧ OwL K H (fun a => Z a ∨ (T a ∧ ¬ T' a)) l j vs T'
  | [], _, _, _, T, h, _ => ⟨T, fun _ z => z, h⟩
  | d :: ds, k, j, vs, T, h, hj => by
    unfold OwL at h
    obtain ⟨v, ws, T1, T2, e, h1, h2, dj, t⟩ := h
    obtain ⟨U1, u1, q1⟩ := Ow.weak h1 hj
    obtain ⟨U2, u2, q2⟩ := OwL.weak h2 hj
    refine ⟨fun a => U1 a ∨ U2 a, fun a z => (t a).2 (z.elim (fun z => .inl (u1 a z)) fun z => .inr (u2 a z)), ?_⟩
    unfold OwL
    refine ⟨v, ws, U1, U2, e, q1.mono (fun b z => z.elim .inl fun z => .inr ⟨(t b).2 (.inl z.1), fun y => ?_⟩) (fun _ _ e _ => e), q2.mono (fun b z => z.elim .inl fun z => .inr ⟨(t b).2 (.inr z.1), fun y => ?_⟩) (fun _ _ e _ => e), fun a z y => dj a (u1 a z) (u2 a y), fun a => Iff.rfl⟩
    · rcases y with y | y
      · exact z.2 y
      · exact dj b z.1 (u2 b y)
    · rcases y with y | y
      · exact dj b (u1 b y) z.1
      · exact z.2 y
theorem owL_zero {H : Hp} {Z : AS} : ∀ {l : List D} {vs : List V} {T : AS}, OwL K H Z l 0 vs T ↔ (FzL K H Z l vs ∧ ∀ a, ¬ T a)
  | [], _, _ => by simp only [OwL, FzL]
  | d :: ds, vs, T => by
    unfold OwL FzL
    constructor
    · rintro ⟨v, ws, T1, T2, e, h1, h2, _, t⟩
      have z1 := ow_zero.1 h1
      have z2 := owL_zero.1 h2
      exact ⟨⟨v, ws, e, z1.1, z2.1⟩, fun a z => ((t a).1 z).elim (z1.2 a) (z2.2 a)⟩
    · rintro ⟨⟨v, ws, e, h1, h2⟩, t⟩
      exact ⟨v, ws, fun _ => False, fun _ => False, e, ow_zero.2 ⟨h1, fun _ z => z⟩, owL_zero.2 ⟨h2, fun _ z => z⟩, fun _ z => z.elim, fun a => ⟨fun z => (t a z).elim, fun z => z.elim (fun z => z.elim) fun z => z.elim⟩⟩
end
end
end
end BW

/-! BwSt: the state of a body (slots, heap, what is settled, what is owned), its steps. -/
namespace BW
noncomputable section
open PySem PySem.Spec PyProof.Rows L2
variable {K : PySem.W.Frag}
def Good (H : Hp) : Prop := ∀ a xs, (Rd H a (.lst xs) ∨ Rd H a (.tup xs)) → xs.length ≤ sizeLine
abbrev FS := Nat → AS
abbrev Bk := Nat → Option (Option V)
/-- the script's list -/
def FrL (K : PySem.W.Frag) (H : Hp) (a : Addr) (l : List Int) : Prop := (∃ o, H a = some (.frz o (.lst (l.map V.int)))) ∨
  ∃ (o : Obj) (its : Array Value) (n : Nat), K.lookup a = some o ∧ o.cls = .type "list" ∧ o.dict = none ∧ o.data = .seq its n ∧ its.size ≤ sizeLine ∧ Vals (l.map V.int) its.toList
theorem FrL.sq {H : Hp} {a : Addr} {l : List Int} (h : FrL K H a l) : SqL K H a (l.map V.int) := h.elim (fun ⟨o, h⟩ => .inl (.inr ⟨o, h⟩)) .inr
theorem FrL.mono {H H1 : Hp} {a : Addr} {l : List Int} (h : FrL K H a l) (k : ∀ o, H a = some o → (∀ xs, o ≠ .lst xs) → H1 a = some o) : FrL K H1 a l := h.elim (fun ⟨o, h⟩ => .inl ⟨o, k _ h fun xs e => by cases e⟩) .inr
/-- a refusal that was caught: an object of its class -/
def ExC (cls : Value) (a : Addr) : HO := .ext fun h => ∃ (oe : Obj) (vs : Array Value), h.get? a = some oe ∧ Zc cls none oe ∧ oe.data = .fields vs
/-- the program's classes of refusals -/
def xcls : List Str := ["BankError", "NoWord", "NoStart", "NoWalk", "NoOrder", "Clash", "NotSquare", "NoAsk", "BadText", "BadRow"]
/-- what is known of such a class -/
structure XOk (K : PySem.W.Frag) (c : Str) : Prop where
  ns : PySem.W.nsIn K mainGlobals c = some (some (.ref (He.ga K c)))
  x : ExcC K (He.ga K c)
  ve : PySem.W.kitOne K (.ref (He.ga K c)) (.type "ValueError") = some true
  kit : ∀ d ∈ xcls, PySem.W.nsIn K mainGlobals d = some (some (.ref (He.ga K d))) → PySem.W.kitOne K (.ref (He.ga K c)) (.ref (He.ga K d)) = some (subC c d) ∧ PySem.W.exmOne K (.ref (He.ga K c)) (.ref (He.ga K d)) = some (subC c d)
def SlotR (K : PySem.W.Frag) (b : Option (Option V)) (H : Hp) (Z : AS) (x : Option (Option V)) (T : AS) : R → Prop
  | .un => ∀ a, ¬ T a
  | .val d => ∃ v, x = some (some v) ∧ Fz K H Z d v ∧ ∀ a, ¬ T a
  | .own k d => ∃ v, x = some (some v) ∧ Ow K H Z d k v T
  | .io k d => b = x ∧ ∃ v, x = some (some v) ∧ Ow K H Z d k v T
  | .scr l => (∃ a, x = some (some (.ref a)) ∧ FrL K H a l) ∧ ∀ a, ¬ T a
  | .exc c => (∃ a, x = some (some (.ref a)) ∧ H a = some (ExC (.ref (He.ga K c)) a) ∧ XOk K c) ∧ ∀ a, ¬ T a
structure SR (K : PySem.W.Frag) (B : Bk) (σ : L2.St) (ρ : Env) (H : Hp) (Z : AS) (F : FS) : Prop where
  len : ρ.length = σ.length
  sl : ∀ i, SlotR K (B i) H Z σ[i]? (F i) (slot ρ i)
  dj : ∀ i j a, F i a → F j a → i = j
  nz : ∀ i a, F i a → ¬ Z a
  mu : ∀ i a, F i a → ∃ vs, H a = some (.lst vs)
  zt : ∀ a, Z a → ∃ o, H a = some o
  gd : Good H
/-- a step: what is not the frame's own stays -/
structure Ps (H : Hp) (Z : AS) (F : FS) (H' : Hp) (Z' : AS) (F' : FS) : Prop where
  keep : ∀ a o, H a = some o → (∀ i, ¬ F i a) → H' a = some o
  dom : ∀ a o, H a = some o → ∃ o', H' a = some o'
  zz : ∀ a, Z a → Z' a
  zn : ∀ a, Z' a → Z a ∨ H a = none ∨ ∃ i, F i a
  fn : ∀ i a, F' i a → (∃ j, F j a) ∨ H a = none
/-- lists held by the way -/
def Tm (H : Hp) (Z : AS) (F : FS) (T : AS) : Prop := ∀ a, T a → (∃ vs, H a = some (.lst vs)) ∧ ¬ Z a ∧ ∀ i, ¬ F i a
structure Rs (H : Hp) (Z : AS) (F : FS) (H' : Hp) (Z' : AS) (F' : FS) (T : AS) : Prop where
  ps : Ps H Z F H' Z' F'
  tm : Tm H' Z' F' T
  tf : ∀ a, T a → (∃ j, F j a) ∨ H a = none
section
variable {H H1 H2 : Hp} {Z Z1 Z2 : AS} {F F1 F2 : FS} {T T' : AS} {B : Bk} {σ : L2.St} {ρ : Env}
theorem none_of_dom {H H' : Hp} (d : ∀ a o, H a = some o → ∃ o', H' a = some o') {a : Addr} (h : H' a = none) : H a = none := by
  cases e : H a with
  | none => rfl
  | some o =>
    obtain ⟨o', e'⟩ := d a o e
    rw [h] at e'
    cases e'
theorem Ps.refl : Ps H Z F H Z F := ⟨fun _ _ e _ => e, fun a o e => ⟨o, e⟩, fun _ z => z, fun _ z => .inl z, fun i _ z => .inl ⟨i, z⟩⟩
theorem Ps.trans (p : Ps H Z F H1 Z1 F1) (q : Ps H1 Z1 F1 H2 Z2 F2) : Ps H Z F H2 Z2 F2 where
  keep := fun a o e n => q.keep a o (p.keep a o e n) fun i z => (p.fn i a z).elim (fun ⟨j, z⟩ => n j z) fun z => by rw [e] at z; cases z
  dom := fun a o e => let ⟨o1, e1⟩ := p.dom a o e; q.dom a o1 e1
  zz := fun a z => q.zz a (p.zz a z)
  zn := fun a z => by
    rcases q.zn a z with z | z | ⟨i, z⟩
    · exact p.zn a z
    · exact .inr (.inl (none_of_dom p.dom z))
    · exact .inr ((p.fn i a z).elim .inr .inl)
  fn := fun i a z => by
    rcases q.fn i a z with ⟨j, z⟩ | z
    · exact p.fn j a z
    · exact .inr (none_of_dom p.dom z)
theorem Tm.ps (t : Tm H Z F T) (p : Ps H Z F H1 Z1 F1) : Tm H1 Z1 F1 T := fun a z => by
  obtain ⟨⟨vs, e⟩, nz, nf⟩ := t a z
  refine ⟨⟨vs, p.keep a _ e nf⟩, fun y => ?_, fun i y => ?_⟩
  · rcases p.zn a y with y | y | ⟨i, y⟩
    · exact nz y
    · rw [e] at y; cases y
    · exact nf i y
  · rcases p.fn i a y with ⟨j, y⟩ | y
    · exact nf j y
    · rw [e] at y; cases y
theorem Tm.none : Tm H Z F fun _ => False := fun _ z => z.elim
theorem Tm.of (h : ∀ a, ¬ T a) : Tm H Z F T := fun a z => (h a z).elim
theorem Tm.sub (t : Tm H Z F T) (h : ∀ a, T' a → T a) : Tm H Z F T' := fun a z => t a (h a z)
theorem Ps.fz (p : Ps H Z F H1 Z1 F1) (s : SR K B σ ρ H Z F) {d : D} {v : V} (h : Fz K H Z d v) : Fz K H1 Z1 d v :=
  h.mono (fun a o e z => p.keep a o e fun i y => by
    rcases z with z | z
    · exact s.nz i a y z
    · obtain ⟨vs, e'⟩ := s.mu i a y
      rw [e] at e'; cases e'
      exact z vs rfl) p.zz
theorem Ps.fzL (p : Ps H Z F H1 Z1 F1) (s : SR K B σ ρ H Z F) {d : List D} {v : List V} (h : FzL K H Z d v) : FzL K H1 Z1 d v :=
  h.mono (fun a o e z => p.keep a o e fun i y => by
    rcases z with z | z
    · exact s.nz i a y z
    · obtain ⟨vs, e'⟩ := s.mu i a y
      rw [e] at e'; cases e'
      exact z vs rfl) p.zz
theorem Ps.ow (p : Ps H Z F H1 Z1 F1) (s : SR K B σ ρ H Z F) (t : Tm H Z F T) {d : D} {k : Nat} {v : V} (h : Ow K H Z d k v T) : Ow K H1 Z1 d k v T :=
  h.mono p.zz fun a o e z => p.keep a o e fun i y => by
    rcases z with z | z | z
    · exact s.nz i a y z
    · exact (t a z).2.2 i y
    · obtain ⟨vs, e'⟩ := s.mu i a y
      rw [e] at e'; cases e'
      exact z vs rfl
theorem Ps.owL (p : Ps H Z F H1 Z1 F1) (s : SR K B σ ρ H Z F) (t : Tm H Z F T) {d : List D} {k : Nat} {v : List V} (h : OwL K H Z d k v T) : OwL K H1 Z1 d k v T :=
  h.mono p.zz fun a o e z => p.keep a o e fun i y => by
    rcases z with z | z | z
    · exact s.nz i a y z
    · exact (t a z).2.2 i y
    · obtain ⟨vs, e'⟩ := s.mu i a y
      rw [e] at e'; cases e'
      exact z vs rfl
theorem Rs.refl (t : ∀ a, ¬ T a) : Rs H Z F H Z F T := ⟨Ps.refl, Tm.of t, fun a z => (t a z).elim⟩
theorem Rs.pre (p : Ps H Z F H1 Z1 F1) (q : Rs H1 Z1 F1 H2 Z2 F2 T) : Rs H Z F H2 Z2 F2 T := ⟨p.trans q.ps, q.tm, fun a z => by
  rcases q.tf a z with ⟨j, z⟩ | z
  · exact p.fn j a z
  · exact .inr (none_of_dom p.dom z)⟩
theorem SlotR.mono {b x : Option (Option V)} {r : R} (h : SlotR K b H Z x T r) (zz : ∀ a, Z a → Z1 a) (kz : ∀ a o, H a = some o → (Z a ∨ T a ∨ ∀ xs, o ≠ .lst xs) → H1 a = some o) : SlotR K b H1 Z1 x T r := by
  cases r with
  | un => exact h
  | val d =>
    obtain ⟨v, e, f, t⟩ := h
    exact ⟨v, e, f.mono (fun a o e z => kz a o e (z.elim .inl fun z => .inr (.inr z))) zz, t⟩
  | own k d =>
    obtain ⟨v, e, f⟩ := h
    exact ⟨v, e, f.mono zz kz⟩
  | io k d =>
    obtain ⟨eb, v, e, f⟩ := h
    exact ⟨eb, v, e, f.mono zz kz⟩
  | scr l =>
    obtain ⟨⟨a, e, f⟩, t⟩ := h
    exact ⟨⟨a, e, f.mono fun o h n => kz _ _ h (.inr (.inr n))⟩, t⟩
  | exc c =>
    obtain ⟨⟨a, e, f⟩, t⟩ := h
    exact ⟨⟨a, e, kz _ _ f.1 (.inr (.inr fun xs z => by cases z)), f.2⟩, t⟩
/-- more objects, more that is settled -/
theorem SR.more (s : SR K B σ ρ H Z F) (k : ∀ a o, H a = some o → H1 a = some o) (zz : ∀ a, Z a → Z1 a) (nz : ∀ i a, F i a → ¬ Z1 a) (zt : ∀ a, Z1 a → ∃ o, H1 a = some o) (g : Good H1) : SR K B σ ρ H1 Z1 F :=
  ⟨s.len, fun i => (s.sl i).mono zz fun a o e _ => k a o e, s.dj, nz, fun i a z => let ⟨vs, e⟩ := s.mu i a z; ⟨vs, k _ _ e⟩, zt, g⟩
/-- what is held by the way is settled -/
theorem SR.settle (s : SR K B σ ρ H Z F) (t : Tm H Z F T) : SR K B σ ρ H (fun a => Z a ∨ T a) F :=
  s.more (fun _ _ e => e) (fun _ z => .inl z) (fun i a y z => z.elim (s.nz i a y) fun z => (t a z).2.2 i y) (fun a z => z.elim (s.zt a) fun z => let ⟨vs, e⟩ := (t a z).1; ⟨_, e⟩) s.gd
theorem Rs.settle (r : Rs H Z F H1 Z1 F1 T) (sub : ∀ a, T' a → T a) : Rs H Z F H1 (fun a => Z1 a ∨ (T a ∧ ¬ T' a)) F1 T' where
  ps := ⟨r.ps.keep, r.ps.dom, fun a z => .inl (r.ps.zz a z), fun a z => z.elim (r.ps.zn a) fun z => .inr ((r.tf a z.1).elim .inr .inl), r.ps.fn⟩
  tm := fun a z => let ⟨h1, h2, h3⟩ := r.tm a (sub a z); ⟨h1, fun y => y.elim h2 fun y => y.2 z, h3⟩
  tf := fun a z => r.tf a (sub a z)
theorem SR.settle' (s : SR K B σ ρ H Z F) (t : Tm H Z F T) (sub : ∀ a, T' a → T a) : SR K B σ ρ H (fun a => Z a ∨ (T a ∧ ¬ T' a)) F :=
  s.more (fun _ _ e => e) (fun _ z => .inl z) (fun i a y z => z.elim (s.nz i a y) fun z => (t a z.1).2.2 i y) (fun a z => z.elim (s.zt a) fun z => let ⟨vs, e⟩ := (t a z.1).1; ⟨_, e⟩) s.gd
theorem Good.upd {p : Addr} {o : HO} (g : Good H) (ho : ∀ xs, (o = .lst xs ∨ o = .tup xs ∨ ∃ ob, o = .frz ob (.lst xs) ∨ o = .frz ob (.tup xs)) → xs.length ≤ sizeLine) : Good (upd H p o) := by
  intro a xs h
  by_cases e : a = p
  · subst e
    unfold Rd at h
    rw [upd_same] at h
    refine ho xs ?_
    rcases h with (h | ⟨ob, h⟩) | (h | ⟨ob, h⟩)
    · exact .inl (Option.some.inj h)
    · exact .inr (.inr ⟨ob, .inl (Option.some.inj h)⟩)
    · exact .inr (.inl (Option.some.inj h))
    · exact .inr (.inr ⟨ob, .inr (Option.some.inj h)⟩)
  · unfold Rd at h
    rw [upd_ne e] at h
    exact g a xs h
theorem Good.lst {p : Addr} {xs : List V} (g : Good H) (h : xs.length ≤ sizeLine) : Good (L2.upd H p (.lst xs)) := g.upd fun ys e => by
  rcases e with e | e | ⟨_, e | e⟩ <;> cases e
  exact h
theorem Good.tup {p : Addr} {xs : List V} (g : Good H) (h : xs.length ≤ sizeLine) : Good (L2.upd H p (.tup xs)) := g.upd fun ys e => by
  rcases e with e | e | ⟨_, e | e⟩ <;> cases e
  exact h
theorem keep_upd {p : Addr} {o : HO} (n : H p = none) : ∀ a o', H a = some o' → L2.upd H p o a = some o' := fun a o' e => by rw [upd_ne (ne_of_none e n)]; exact e
/-- a new tuple -/
theorem new_tup {p : Addr} {l : List D} {vs : List V} (s : SR K B σ ρ H Z F) (n : H p = none) (f : FzL K H Z l vs) (z : vs.length ≤ sizeLine) (k : Nat) :
    SR K B σ ρ (upd H p (.tup vs)) Z F ∧ Rs H Z F (upd H p (.tup vs)) Z F (fun _ => False) ∧ Ow K (upd H p (.tup vs)) Z (.tuple l) k (.ref p) (fun _ => False) := by
  have kp := keep_upd (o := .tup vs) n
  refine ⟨s.more kp (fun _ z => z) s.nz (fun a z => let ⟨o, e⟩ := s.zt a z; ⟨o, kp _ _ e⟩) (s.gd.tup z), ⟨⟨fun a o e _ => kp a o e, fun a o e => ⟨o, kp a o e⟩, fun _ z => z, fun _ z => .inl z, fun i _ z => .inl ⟨i, z⟩⟩, Tm.none, fun _ z => z.elim⟩, ?_⟩
  unfold Ow
  exact ⟨⟨p, vs, rfl, .inl (.inl upd_same), f.mono (fun a o e _ => kp a o e) fun _ z => z⟩, fun _ z => z⟩
/-- a new list over owned items -/
theorem new_lst {p : Addr} {l : List D} {vs : List V} {k : Nat} (s : SR K B σ ρ H Z F) (n : H p = none) (f : OwL K H Z l k vs T) (t : Tm H Z F T) (z : vs.length ≤ sizeLine) :
    SR K B σ ρ (upd H p (.lst vs)) Z F ∧ Tm (upd H p (.lst vs)) Z F (fun a => a = p ∨ T a) ∧ Ow K (upd H p (.lst vs)) Z (.list l) (k + 1) (.ref p) (fun a => a = p ∨ T a) := by
  have kp := keep_upd (o := .lst vs) n
  refine ⟨s.more kp (fun _ z => z) s.nz (fun a z => let ⟨o, e⟩ := s.zt a z; ⟨o, kp _ _ e⟩) (s.gd.lst z), fun a h => ?_, ?_⟩
  · rcases h with rfl | h
    · refine ⟨⟨vs, upd_same⟩, fun y => ?_, fun i y => ?_⟩
      · obtain ⟨o, e⟩ := s.zt _ y
        rw [n] at e; cases e
      · obtain ⟨o, e⟩ := s.mu i _ y
        rw [n] at e; cases e
    · obtain ⟨⟨xs, e⟩, h2, h3⟩ := t a h
      exact ⟨⟨xs, kp _ _ e⟩, h2, h3⟩
  · unfold Ow
    refine ⟨p, vs, T, rfl, upd_same, fun y => ?_, f.mono (fun _ z => z) fun a o e _ => kp a o e, fun b => Iff.rfl⟩
    obtain ⟨⟨xs, e⟩, _⟩ := t p y
    rw [n] at e; cases e
theorem Ps.new {p : Addr} {o : HO} (n : H p = none) : Ps H Z F (upd H p o) Z F :=
  ⟨fun a o' e _ => keep_upd n a o' e, fun a o' e => ⟨o', keep_upd n a o' e⟩, fun _ z => z, fun _ z => .inl z, fun i _ z => .inl ⟨i, z⟩⟩
/-- the answer, at any lesser depth -/
theorem fin_ow {H0 : Hp} {Z0 : AS} {F0 : FS} {d : D} {k j : Nat} {v : V} {Q : VK} (s : SR K B σ ρ H Z F) (r : Rs H0 Z0 F0 H Z F T) (o : Ow K H Z d k v T) (hj : j ≤ k)
    (q : ∀ Z' T', SR K B σ ρ H Z' F → Rs H0 Z0 F0 H Z' F T' → Ow K H Z' d j v T' → Q v H) : Q v H := by
  obtain ⟨T', sub, o'⟩ := o.weak hj
  exact q _ T' (s.settle' r.tm sub) (r.settle sub) o'
end
end
end BW

/-! BwE1: readings of expressions by their evaluation. -/
namespace BW
noncomputable section
open PySem PySem.Spec PyProof.Rows L2
theorem _root_.L2.PE.imp {X : Cx} {e : Expr} {t t' : TE} (h : PE X e t) (f : ∀ σ H Q, t' σ H Q → t σ H Q) : PE X e t' := ⟨fun pins s σ H Q I q => h.run pins s σ H Q I (f _ _ _ q)⟩
theorem _root_.L2.PT.imp {X : Cx} {e : Expr} {t t' : TT} (h : PT X e t) (f : ∀ σ H Q, t' σ H Q → t σ H Q) : PT X e t' := ⟨fun pins s σ H Q I q => h.run pins s σ H Q I (f _ _ _ q)⟩
theorem opr_or {X : Cx} {f : Value → Value → Sem Value} {r r' : R2} (h : OpR X f r) (h' : OpR X f r') : OpR X f (fun x y H Q => r x y H Q ∨ r' x y H Q) := by
  intro pins s σ H x y v u Q I rx ry q
  rcases q with q | q
  · exact h pins s σ H x y v u Q I rx ry q
  · exact h' pins s σ H x y v u Q I rx ry q
theorem callr_or {X : Cx} {f : Value} {r r' : List V → Hp → VK → Prop} (h : CallR X f r) (h' : CallR X f r') : CallR X f (fun x H Q => r x H Q ∨ r' x H Q) := by
  intro pins s σ H x v Q I rx q
  rcases q with q | q
  · exact h pins s σ H x v Q I rx q
  · exact h' pins s σ H x v Q I rx q
/-! ### slots -/
theorem slot_set {ρ : Env} {i j : Nat} {r : R} : slot (ρ.set i r) j = if i = j then (if j < ρ.length then r else .un) else slot ρ j := by
  unfold slot
  rw [List.getD_eq_getElem?_getD, List.getD_eq_getElem?_getD, List.getElem?_set]
  by_cases e : i = j
  · subst e
    rw [if_pos rfl, if_pos rfl]
    split <;> rfl
  · rw [if_neg e, if_neg e]
theorem slot_lt {ρ : Env} {i : Nat} (h : slot ρ i ≠ .un) : i < ρ.length := by
  rcases Nat.lt_or_ge i ρ.length with h1 | h1
  · exact h1
  · refine absurd ?_ h
    unfold slot
    rw [List.getD_eq_getElem?_getD, List.getElem?_eq_none h1]
    rfl
section
variable {K : PySem.W.Frag} {H H1 H2 : Hp} {Z Z1 Z2 : AS} {F F1 F2 : FS} {T T' : AS} {B : Bk} {σ : L2.St} {ρ ρ1 : Env}
/-- a slot's footprint given up -/
theorem SR.drop (s : SR K B σ ρ H Z F) (i : Nat) : SR K B σ (ρ.set i .un) H Z (fun j => if j = i then fun _ => False else F j) where
  len := by rw [List.length_set]; exact s.len
  sl := fun j => by
    rw [slot_set]
    by_cases e : i = j
    · subst e
      rw [if_pos rfl, if_pos rfl]
      split <;> exact fun _ z => z
    · rw [if_neg e, if_neg (Ne.symm e)]
      exact s.sl j
  dj := fun j k a h1 h2 => by
    try dsimp only at h1 h2
    by_cases e : j = i
    · rw [if_pos e] at h1; exact h1.elim
    · by_cases e' : k = i
      · rw [if_pos e'] at h2; exact h2.elim
      · rw [if_neg e] at h1; rw [if_neg e'] at h2
        exact s.dj j k a h1 h2
  nz := fun j a h => by
    try dsimp only at h
    by_cases e : j = i
    · rw [if_pos e] at h; exact h.elim
    · rw [if_neg e] at h; exact s.nz j a h
  mu := fun j a h => by
    try dsimp only at h
    by_cases e : j = i
    · rw [if_pos e] at h; exact h.elim
    · rw [if_neg e] at h; exact s.mu j a h
  zt := s.zt
  gd := s.gd
theorem Ps.drop (i : Nat) : Ps H Z F H Z (fun j => if j = i then fun _ => False else F j) :=
  ⟨fun _ _ e _ => e, fun a o e => ⟨o, e⟩, fun _ z => z, fun _ z => .inl z, fun j a h => by
    try dsimp only at h
    by_cases e : j = i
    · rw [if_pos e] at h; exact h.elim
    · rw [if_neg e] at h; exact .inl ⟨j, h⟩⟩
/-- a slot's lists, held by the way -/
theorem SR.heldAt (s : SR K B σ ρ H Z F) (i : Nat) : Tm H Z (fun j => if j = i then fun _ => False else F j) (F i) := fun a h => by
  refine ⟨s.mu i a h, s.nz i a h, fun j y => ?_⟩
  try dsimp only at y
  by_cases e : j = i
  · rw [if_pos e] at y; exact y
  · rw [if_neg e] at y; exact e (s.dj j i a y h)
theorem SR.put {v : V} {d : D} {k : Nat} (s : SR K B σ ρ H Z F) (i : Nat) (o : Ow K H Z d k v T) (t : Tm H Z F T) : SR K B (σ.set i (some v)) (ρ.set i (mkR k d)) H Z (fun j => if j = i then (if i < ρ.length then T else fun _ => False) else F j) where
  len := by rw [List.length_set, List.length_set]; exact s.len
  sl := fun j => by
    rw [slot_set, List.getElem?_set]
    by_cases e : i = j
    · subst e
      simp only [if_true]
      by_cases hi : i < ρ.length
      · rw [if_pos hi, if_pos hi, if_pos (by rw [← s.len]; exact hi)]
        cases k with
        | zero => exact ⟨v, rfl, (ow_zero.1 o).1, (ow_zero.1 o).2⟩
        | succ k => exact ⟨v, rfl, o⟩
      · rw [if_neg hi, if_neg hi]
        exact fun _ z => z
    · rw [if_neg e, if_neg e, if_neg (Ne.symm e)]
      exact s.sl j
  dj := fun j k a h1 h2 => by
    try dsimp only at h1 h2
    by_cases e : j = i
    · by_cases e' : k = i
      · rw [e, e']
      · rw [if_pos e] at h1; rw [if_neg e'] at h2
        split at h1
        · exact absurd h2 ((t a h1).2.2 k)
        · exact h1.elim
    · by_cases e' : k = i
      · rw [if_pos e'] at h2; rw [if_neg e] at h1
        split at h2
        · exact absurd h1 ((t a h2).2.2 j)
        · exact h2.elim
      · rw [if_neg e] at h1; rw [if_neg e'] at h2
        exact s.dj j k a h1 h2
  nz := fun j a h => by
    try dsimp only at h
    by_cases e : j = i
    · rw [if_pos e] at h
      split at h
      · exact (t a h).2.1
      · exact h.elim
    · rw [if_neg e] at h; exact s.nz j a h
  mu := fun j a h => by
    try dsimp only at h
    by_cases e : j = i
    · rw [if_pos e] at h
      split at h
      · exact (t a h).1
      · exact h.elim
    · rw [if_neg e] at h; exact s.mu j a h
  zt := s.zt
  gd := s.gd
theorem Rs.put {H0 : Hp} {Z0 : AS} {F0 : FS} (r : Rs H0 Z0 F0 H Z F T) (i : Nat) (ρ : Env) : Ps H0 Z0 F0 H Z (fun j => if j = i then (if i < ρ.length then T else fun _ => False) else F j) :=
  ⟨r.ps.keep, r.ps.dom, r.ps.zz, r.ps.zn, fun j a h => by
    try dsimp only at h
    by_cases e : j = i
    · rw [if_pos e] at h
      split at h
      · exact r.tf a h
      · exact h.elim
    · rw [if_neg e] at h; exact r.ps.fn j a h⟩
theorem SR.val (s : SR K B σ ρ H Z F) {i : Nat} {d : D} (e : slot ρ i = .val d) : ∃ v, σ[i]? = some (some v) ∧ Fz K H Z d v ∧ ∀ a, ¬ F i a := by
  have h := s.sl i
  rw [e] at h
  exact h
/-- what a slot shows -/
theorem SR.view (s : SR K B σ ρ H Z F) {i k : Nat} {d : D} (e : viewR (slot ρ i) = some (k, d)) : ∃ v, σ[i]? = some (some v) ∧ Ow K H Z d k v (F i) := by
  have h := s.sl i
  cases q : slot ρ i with
  | un => rw [q] at e; cases e
  | val d' =>
    rw [q] at e h
    cases e
    obtain ⟨v, e1, f, t⟩ := h
    exact ⟨v, e1, ow_zero.2 ⟨f, t⟩⟩
  | own k' d' =>
    rw [q] at e h
    cases e
    exact h
  | io k' d' =>
    rw [q] at e h
    cases e
    exact h.2
  | scr l => rw [q] at e; cases e
  | exc l => rw [q] at e; cases e
/-- an owned name settled -/
theorem SR.freeze (s : SR K B σ ρ H Z F) {i k : Nat} {d : D} (e : slot ρ i = .own k d) :
    SR K B σ (ρ.set i (.val d)) H (fun a => Z a ∨ (F i a ∧ ¬ False)) (fun j => if j = i then fun _ => False else F j) ∧ Ps H Z F H (fun a => Z a ∨ (F i a ∧ ¬ False)) (fun j => if j = i then fun _ => False else F j) := by
  have hi : i < ρ.length := slot_lt (by rw [e]; intro z; cases z)
  have h := s.sl i
  rw [e] at h
  obtain ⟨v, ev, o⟩ := h
  obtain ⟨T', sub, o'⟩ := o.weak (Nat.zero_le k)
  have f := ow_zero.1 o'
  have f' : Fz K H (fun a => Z a ∨ (F i a ∧ ¬ False)) d v := f.1.mono (fun _ _ e _ => e) fun a z => z.elim .inl fun z => .inr ⟨z.1, id⟩
  have s2 := (s.drop i).settle' (T' := fun _ => False) (s.heldAt i) fun _ z => z.elim
  have sp := s2.put i (ow_zero.2 ⟨f', fun _ z => z⟩) (T := fun _ => False) Tm.none
  have e1 : σ.set i (some v) = σ := by
    refine List.ext_getElem? fun j => ?_
    rw [List.getElem?_set]
    split
    · rename_i h; subst h
      rw [if_pos (by rw [← s.len]; exact hi), ev]
    · rfl
  refine ⟨⟨by rw [List.length_set]; exact s.len, fun j => ?_, s2.dj, s2.nz, s2.mu, s2.zt, s2.gd⟩, ⟨fun _ _ e _ => e, fun a o e => ⟨o, e⟩, fun _ z => .inl z, fun a z => z.elim .inl fun z => .inr (.inr ⟨i, z.1⟩), fun j a h => ?_⟩⟩
  · have q := s2.sl j
    rw [slot_set] at q ⊢
    by_cases ej : i = j
    · subst ej
      simp only [if_true, if_pos hi]
      exact ⟨v, ev, f', fun _ z => z⟩
    · rw [if_neg ej] at q ⊢
      exact q
  · try dsimp only at h
    by_cases ej : j = i
    · rw [if_pos ej] at h; exact h.elim
    · rw [if_neg ej] at h; exact .inl ⟨j, h⟩
end
/-! ### the reading of an expression: by its evaluation -/
def Kn (K : PySem.W.Frag) (B : Bk) (σ : L2.St) (ρ' : Env) (H : Hp) (Z : AS) (F : FS) (d : D) (k : Nat) (Q : VK) : Prop :=
  ∀ v H' Z' F' T, SR K B σ ρ' H' Z' F' → Rs H Z F H' Z' F' T → Ow K H' Z' d k v T → Q v H'
def spF (K : PySem.W.Frag) (B : Bk) (f : Env → Option (D × Env)) (k : Nat) : TE := fun σ H Q => ∃ ρ Z F d ρ', SR K B σ ρ H Z F ∧ f ρ = some (d, ρ') ∧ Kn K B σ ρ' H Z F d k Q
abbrev spE (K : PySem.W.Frag) (B : Bk) (C : Calls) (G : Nat → D) (e : Ex) (k : Nat) : TE := spF K B (evE C G e) k
/-- a test -/
def spT (K : PySem.W.Frag) (B : Bk) (f : Env → Option (D × Env)) : TT := fun σ H Q => ∃ ρ Z F b ρ', SR K B σ ρ H Z F ∧ f ρ = some (.bool b, ρ') ∧
  ∀ H' Z' F', SR K B σ ρ' H' Z' F' → Ps H Z F H' Z' F' → Q b H'
/-- an operand -/
def OpV (K : PySem.W.Frag) (σ : L2.St) (H : Hp) (Z : AS) : Op → V → Prop
  | .now d, v => Fz K H Z d v
  | .late i, v => σ[i]? = some (some v)
def spO (K : PySem.W.Frag) (B : Bk) (f : Env → Option (Op × Env)) : TE := fun σ H Q => ∃ ρ Z F p ρ', SR K B σ ρ H Z F ∧ f ρ = some (p, ρ') ∧
  ∀ v H' Z' F', SR K B σ ρ' H' Z' F' → Ps H Z F H' Z' F' → OpV K σ H' Z' p v → Q v H'
section
variable {K : PySem.W.Frag} {H H1 H2 : Hp} {Z Z1 Z2 : AS} {F F1 F2 : FS} {B : Bk} {σ : L2.St} {ρ ρ1 : Env}
theorem OpV.ps {p : Op} {v : V} (h : OpV K σ H Z p v) (s : SR K B σ ρ H Z F) (q : Ps H Z F H1 Z1 F1) : OpV K σ H1 Z1 p v := by
  cases p with
  | now d => exact q.fz s h
  | late i => exact h
theorem OpV.view {p : Op} {v : V} {k : Nat} {d : D} (h : OpV K σ H Z p v) (s : SR K B σ ρ H Z F) (e : vw ρ p = some (k, d)) : ∃ T, Ow K H Z d k v T := by
  cases p with
  | now d' =>
    cases e
    exact ⟨fun _ => False, ow_zero.2 ⟨h, fun _ z => z⟩⟩
  | late i =>
    obtain ⟨v', e1, o⟩ := s.view e
    have h' : σ[i]? = some (some v) := h
    rw [h'] at e1
    cases e1
    exact ⟨_, o⟩
/-- as items of an operand: settled below depth 1 -/
theorem seq_of_ow {l : List D} {k : Nat} {v : V} {T : AS} (h : Ow K H Z (.list l) k v T) (hk : k ≤ 1) : ∃ a vs, v = .ref a ∧ H a = some (.lst vs) ∧ FzL K H Z l vs := by
  match k, hk with
  | 0, _ =>
    unfold Ow at h
    obtain ⟨⟨a, vs, e, s, q⟩, _⟩ := h
    exact ⟨a, vs, e, s.1, q⟩
  | 1, _ =>
    unfold Ow at h
    obtain ⟨a, vs, T', e, s, _, q, _⟩ := h
    exact ⟨a, vs, e, s, (owL_zero.1 q).1⟩
theorem tup_of_ow {l : List D} {k : Nat} {v : V} {T : AS} (h : Ow K H Z (.tuple l) k v T) : ∃ a vs, v = .ref a ∧ SqT K H a vs ∧ FzL K H Z l vs := by
  unfold Ow at h
  exact h.1
theorem FzL.length : ∀ {l : List D} {vs : List V}, FzL K H Z l vs → l.length = vs.length
  | [], _, h => by cases h; rfl
  | d :: ds, _, h => by
    unfold FzL at h
    obtain ⟨v, ws, rfl, _, h2⟩ := h
    simp [FzL.length h2]
theorem FzL.get : ∀ {l : List D} {vs : List V} {i : Nat} {d : D}, FzL K H Z l vs → l[i]? = some d → ∃ v, vs[i]? = some v ∧ Fz K H Z d v
  | [], _, _, _, _, e => by simp at e
  | d :: ds, _, 0, _, h, e => by
    unfold FzL at h
    obtain ⟨v, ws, rfl, h1, _⟩ := h
    simp at e
    subst e
    exact ⟨v, by simp, h1⟩
  | d :: ds, _, i + 1, _, h, e => by
    unfold FzL at h
    obtain ⟨v, ws, rfl, _, h2⟩ := h
    obtain ⟨w, e1, f⟩ := FzL.get h2 (by simpa using e)
    exact ⟨w, by simpa using e1, f⟩
theorem FzL.app : ∀ {l m : List D} {vs ws : List V}, FzL K H Z l vs → FzL K H Z m ws → FzL K H Z (l ++ m) (vs ++ ws)
  | [], _, _, _, h, h' => by cases h; exact h'
  | d :: ds, _, _, _, h, h' => by
    unfold FzL at h
    obtain ⟨v, us, rfl, h1, h2⟩ := h
    show FzL K H Z (d :: (ds ++ _)) (v :: (us ++ _))
    unfold FzL
    exact ⟨v, _, rfl, h1, FzL.app h2 h'⟩
theorem FzL.drop : ∀ {l : List D} {vs : List V} (n : Nat), FzL K H Z l vs → FzL K H Z (l.drop n) (vs.drop n)
  | _, _, 0, h => h
  | [], _, n + 1, h => by cases h; rfl
  | d :: ds, _, n + 1, h => by
    unfold FzL at h
    obtain ⟨v, us, rfl, h1, h2⟩ := h
    exact FzL.drop n h2
theorem FzL.take : ∀ {l : List D} {vs : List V} (n : Nat), FzL K H Z l vs → FzL K H Z (l.take n) (vs.take n)
  | _, _, 0, h => by rfl
  | [], _, n + 1, h => by cases h; rfl
  | d :: ds, _, n + 1, h => by
    unfold FzL at h
    obtain ⟨v, us, rfl, h1, h2⟩ := h
    show FzL K H Z (d :: ds.take n) (v :: us.take n)
    unfold FzL
    exact ⟨v, _, rfl, h1, FzL.take n h2⟩
theorem fzL_cut {l : List D} {vs : List V} {lo hi : Option Int} (h : FzL K H Z l vs) : FzL K H Z (cutD l lo hi) (cutV vs lo hi) := by
  unfold cutD cutV
  rw [h.length]
  exact (h.drop _).take _
end
end
end BW

/-! BwE2: readings of expressions: constants, names, operators, displays, items, slices. -/
namespace BW
noncomputable section
open PySem PySem.Spec PyProof.Rows L2
section
variable {K : PySem.W.Frag} {H H0 H1 H2 : Hp} {Z Z0 Z1 Z2 : AS} {F F0 F1 F2 : FS} {B : Bk} {σ : L2.St} {ρ ρ0 ρ1 : Env} {Q : VK} {d : D} {k : Nat}
/-! ### ends -/
theorem kn_fz {v : V} (q : Kn K B σ ρ H Z F d 0 Q) (s : SR K B σ ρ H Z F) (f : Fz K H Z d v) : Q v H := q v H Z F (fun _ => False) s (Rs.refl fun _ z => z) (ow_zero.2 ⟨f, fun _ z => z⟩)
theorem kn_any {v : V} (q : Kn K B σ ρ H Z F d k Q) (s : SR K B σ ρ H Z F) (f : Fz K H Z d v) (n : ∀ l, d ≠ .list l) : Q v H := q v H Z F (fun _ => False) s (Rs.refl fun _ z => z) (ow_any f n (fun _ z => z) k)
theorem kn_int {i : Int} (q : Kn K B σ ρ H Z F (.int i) k Q) (s : SR K B σ ρ H Z F) : Q (.int i) H := kn_any q s rfl fun _ e => by cases e
theorem kn_str {i : Str} (q : Kn K B σ ρ H Z F (.str i) k Q) (s : SR K B σ ρ H Z F) : Q (.str i) H := kn_any q s rfl fun _ e => by cases e
theorem kn_bl {i : Bool} (q : Kn K B σ ρ H Z F (.bool i) k Q) (s : SR K B σ ρ H Z F) : Q (.bl i) H := kn_any q s rfl fun _ e => by cases e
theorem kn_non (q : Kn K B σ ρ H Z F .none k Q) (s : SR K B σ ρ H Z F) : Q .non H := kn_any q s rfl fun _ e => by cases e
theorem Kn.pre (q : Kn K B σ ρ H0 Z0 F0 d k Q) (p : Ps H0 Z0 F0 H Z F) : Kn K B σ ρ H Z F d k Q := fun v H' Z' F' T s r o => q v H' Z' F' T s (Rs.pre p r) o
theorem kn_tup {l : List D} {vs : List V} {p : Addr} (q : Kn K B σ ρ H Z F (.tuple l) k Q) (s : SR K B σ ρ H Z F) (n : H p = none) (f : FzL K H Z l vs) (z : vs.length ≤ sizeLine) : Q (.ref p) (upd H p (.tup vs)) := by
  obtain ⟨s', r', o'⟩ := new_tup s n f z k
  exact q _ _ _ _ _ s' r' o'
theorem kn_tup0 {l : List D} {vs : List V} {a : Addr} (q : Kn K B σ ρ H Z F (.tuple l) k Q) (s : SR K B σ ρ H Z F) (f : FzL K H Z l vs) (h : SqT K H a vs) : Q (.ref a) H :=
  kn_any q s (by unfold Fz; exact ⟨a, vs, rfl, h, f⟩) fun _ e => by cases e
theorem kn_lstK {l : List D} {vs : List V} {p : Addr} {T : AS} {j : Nat} (q : Kn K B σ ρ H Z F (.list l) k Q) (s : SR K B σ ρ H Z F) (n : H p = none) (f : OwL K H Z l j vs T) (t : Tm H Z F T) (tf : ∀ a, T a → (∃ j, F j a) ∨ H a = none) (z : vs.length ≤ sizeLine) (hk : k ≤ j + 1) :
    Q (.ref p) (upd H p (.lst vs)) := by
  obtain ⟨s', t', o'⟩ := new_lst s n f t z
  refine fin_ow s' (H0 := H) (Z0 := Z) (F0 := F) ⟨Ps.new n, t', fun a h => ?_⟩ o' hk fun Z' T' s r o => q _ _ _ _ _ s r o
  rcases h with rfl | h
  · exact .inr n
  · exact tf a h
theorem kn_lst {l : List D} {vs : List V} {p : Addr} (q : Kn K B σ ρ H Z F (.list l) k Q) (s : SR K B σ ρ H Z F) (n : H p = none) (f : FzL K H Z l vs) (z : vs.length ≤ sizeLine) (hk : k ≤ 1) : Q (.ref p) (upd H p (.lst vs)) :=
  kn_lstK (j := 0) q s n (owL_zero.2 ⟨f, fun _ z => z⟩) Tm.none (fun _ z => z.elim) z hk
theorem fits_le {n : Nat} (h : fits n = true) : n ≤ sizeLine := by
  have h1 := of_decide_eq_true h
  exact h1
/-! ### data at any depth -/
mutual
theorem Fz.dp : ∀ {d : D} {v : V}, Fz K H Z d v → Dp K H v d
  | .none, _, h => by cases h; exact .non
  | .bool b, _, h => by cases h; exact .bl b
  | .int b, _, h => by cases h; exact .int b
  | .str b, _, h => by cases h; exact .str b
  | .list l, _, h => by
    unfold Fz at h
    obtain ⟨a, vs, rfl, s, q⟩ := h
    exact .lst (.inl (.inl s.1)) (FzL.dp q)
  | .tuple l, _, h => by
    unfold Fz at h
    obtain ⟨a, vs, rfl, s, q⟩ := h
    exact .tup s (FzL.dp q)
  | .dict _, _, h => by unfold Fz at h; exact h.elim
theorem FzL.dp : ∀ {l : List D} {vs : List V}, FzL K H Z l vs → DpAll K H vs l
  | [], _, h => by cases h; exact .nil
  | d :: ds, _, h => by
    unfold FzL at h
    obtain ⟨v, ws, rfl, h1, h2⟩ := h
    exact .cons h1.dp h2.dp
end
mutual
theorem Ow.dp : ∀ {d : D} {k : Nat} {v : V} {T : AS}, Ow K H Z d k v T → Dp K H v d
  | .none, _, _, _, h => by cases h.1; exact .non
  | .bool b, _, _, _, h => by cases h.1; exact .bl b
  | .int b, _, _, _, h => by cases h.1; exact .int b
  | .str b, _, _, _, h => by cases h.1; exact .str b
  | .list l, 0, _, _, h => (ow_zero.1 h).1.dp
  | .list l, k + 1, _, _, h => by
    unfold Ow at h
    obtain ⟨a, vs, T', rfl, s, _, q, _⟩ := h
    exact .lst (.inl (.inl s)) q.dp
  | .tuple l, _, _, _, h => by
    unfold Ow at h
    obtain ⟨⟨a, vs, rfl, s, q⟩, _⟩ := h
    exact .tup s q.dp
  | .dict _, _, _, _, h => by unfold Ow at h; exact h.elim
theorem OwL.dp : ∀ {l : List D} {k : Nat} {vs : List V} {T : AS}, OwL K H Z l k vs T → DpAll K H vs l
  | [], _, _, _, h => by cases h.1; exact .nil
  | d :: ds, _, _, _, h => by
    unfold OwL at h
    obtain ⟨v, ws, T1, T2, rfl, h1, h2, _⟩ := h
    exact .cons h1.dp h2.dp
end
end
/-! ### constants, names -/
section
variable {X : Cx} {B : Bk} {C : Calls} {G : Nat → D} {k : Nat} {pos : Pos}
theorem s_non {j} : PE X (.Constant .none j pos) (spE X.K B C G .non k) := pe_non.imp fun σ H Q ⟨ρ, Z, F, d, ρ', s, e, q⟩ => by
  simp only [evE] at e
  cases e
  exact kn_non q s
theorem s_bl {j b} : PE X (.Constant (.bool b) j pos) (spE X.K B C G (.bl b) k) := pe_bl.imp fun σ H Q ⟨ρ, Z, F, d, ρ', s, e, q⟩ => by
  simp only [evE] at e
  cases e
  exact kn_bl q s
theorem s_int {j i} : PE X (.Constant (.int i) j pos) (spE X.K B C G (.int i) k) := pe_int.imp fun σ H Q ⟨ρ, Z, F, d, ρ', s, e, q⟩ => by
  simp only [evE] at e
  cases e
  exact kn_int q s
theorem s_str {j x} : PE X (.Constant (.str x) j pos) (spE X.K B C G (.str x) k) := pe_str.imp fun σ H Q ⟨ρ, Z, F, d, ρ', s, e, q⟩ => by
  simp only [evE] at e
  cases e
  exact kn_str q s
theorem s_var {i : Nat} {x : Str} (hN : X.N[i]? = some x) (hv : Vis X.env.scope x) (hd : (x == ("__debug__" : Str)) = false) (hcd : (x == ("__classdict__" : Str)) = false) : PE X (.Name x pos) (spE X.K B C G (.var i) 0) :=
  (pe_var hN hv hd hcd).imp fun σ H Q ⟨ρ, Z, F, d, ρ', s, e, q⟩ => by
    simp only [evE] at e
    cases h : slot ρ i with
    | un => rw [h] at e; cases e
    | val d' =>
      rw [h] at e
      cases e
      obtain ⟨v, ev, f, t⟩ := s.val h
      exact ⟨v, ev, kn_fz q s f⟩
    | own k d' =>
      rw [h] at e
      cases e
      obtain ⟨s', p⟩ := s.freeze h
      obtain ⟨v, ev, f, t⟩ := s'.val (i := i) (d := d) (by rw [slot_set, if_pos rfl, if_pos (slot_lt (by rw [h]; intro z; cases z))])
      exact ⟨v, ev, kn_fz (q.pre p) s' f⟩
    | io k d' => rw [h] at e; cases e
    | scr l => rw [h] at e; cases e
    | exc l => rw [h] at e; cases e
theorem s_mv {i j : Nat} {x : Str} (hN : X.N[i]? = some x) (hv : Vis X.env.scope x) (hd : (x == ("__debug__" : Str)) = false) (hcd : (x == ("__classdict__" : Str)) = false) (hk : k ≤ j) : PE X (.Name x pos) (spE X.K B C G (.mv i j) k) :=
  (pe_var hN hv hd hcd).imp fun σ H Q ⟨ρ, Z, F, d, ρ', s, e, q⟩ => by
    simp only [evE] at e
    cases h : slot ρ i with
    | un => rw [h] at e; cases e
    | val d' => rw [h] at e; cases e
    | own k' d' =>
      rw [h] at e
      dsimp only at e
      split at e
      · rename_i hj
        cases e
        have o := s.sl i
        rw [h] at o
        obtain ⟨v, ev, o⟩ := o
        refine ⟨v, ev, ?_⟩
        exact fin_ow (s.drop i) (H0 := H) (Z0 := Z) (F0 := F) ⟨Ps.drop i, s.heldAt i, fun a z => .inl ⟨i, z⟩⟩ o (Nat.le_trans hk hj) fun Z' T' s r o => q _ _ _ _ _ s r o
      · cases e
    | io k d' => rw [h] at e; cases e
    | scr l => rw [h] at e; cases e
    | exc l => rw [h] at e; cases e
/-- an operand -/
theorem s_opd {e : Ex} {ex : Expr} (he : PE X ex (spE X.K B C G e 0)) (hv : ∀ i, e = .var i → ∃ x pos, ex = .Name x pos ∧ X.N[i]? = some x ∧ Vis X.env.scope x ∧ (x == ("__debug__" : Str)) = false ∧ (x == ("__classdict__" : Str)) = false) :
    PE X ex (spO X.K B (opE e (evE C G e))) := by
  by_cases h : ∃ i, e = .var i
  · obtain ⟨i, rfl⟩ := h
    obtain ⟨x, pos, rfl, hN, hV, hd, hcd⟩ := hv i rfl
    refine (pe_var hN hV hd hcd).imp fun σ H Q ⟨ρ, Z, F, p, ρ', s, e, q⟩ => ?_
    simp only [opE] at e
    cases h : viewR (slot ρ i) with
    | none => rw [h] at e; cases e
    | some kd =>
      obtain ⟨k, d⟩ := kd
      rw [h] at e
      cases e
      obtain ⟨v, ev, _⟩ := s.view h
      exact ⟨v, ev, q v H Z F s Ps.refl ev⟩
  · refine he.imp fun σ H Q ⟨ρ, Z, F, p, ρ', s, e', q⟩ => ?_
    have e2 : (evE C G e ρ).bind (fun p => some (Op.now p.1, p.2)) = some (p, ρ') := by
      rw [← e']
      unfold opE
      split
      · exact absurd ⟨_, rfl⟩ h
      · rfl
    cases h2 : evE C G e ρ with
    | none => rw [h2] at e2; cases e2
    | some r =>
      obtain ⟨d, ρ2⟩ := r
      rw [h2] at e2
      cases e2
      exact ⟨ρ, Z, F, d, _, s, h2, fun v H' Z' F' T s' r o => q v H' Z' F' s' r.ps (ow_zero.1 o).1⟩
/-! ### two operands -/
theorem spO_two {K : PySem.W.Frag} {f g : Env → Option (Op × Env)} {r : R2} {σ : L2.St} {H : Hp} {Q : VK} {ρ ρ1 ρ2 : Env} {Z : AS} {F : FS} {p p' : Op} (s : SR K B σ ρ H Z F) (e1 : f ρ = some (p, ρ1)) (e2 : g ρ1 = some (p', ρ2))
    (fin : ∀ v v' H' Z' F', SR K B σ ρ2 H' Z' F' → Ps H Z F H' Z' F' → OpV K σ H' Z' p v → OpV K σ H' Z' p' v' → r v v' H' Q) : tOp r (spO K B f) (spO K B g) σ H Q :=
  ⟨ρ, Z, F, p, ρ1, s, e1, fun v H1 Z1 F1 s1 q1 o1 => ⟨ρ1, Z1, F1, p', ρ2, s1, e2, fun v' H2 Z2 F2 s2 q2 o2 => fin v v' H2 Z2 F2 s2 (q1.trans q2) (o1.ps s1 q2) o2⟩⟩
end
end
end BW

/-! BwE3: operators, comparisons. -/
namespace BW
noncomputable section
open PySem PySem.Spec PyProof.Rows L2
section
variable {K : PySem.W.Frag} {H H0 H1 H2 : Hp} {Z Z0 Z1 Z2 : AS} {F F0 F1 F2 : FS} {B : Bk} {σ : L2.St} {ρ ρ0 ρ1 : Env} {Q : VK} {d : D} {k : Nat}
theorem ow_int {i : Int} {v : V} {T : AS} (h : Ow K H Z (.int i) k v T) : v = .int i := h.1
theorem ow_str {i : Str} {v : V} {T : AS} (h : Ow K H Z (.str i) k v T) : v = .str i := h.1
theorem ow_bl {i : Bool} {v : V} {T : AS} (h : Ow K H Z (.bool i) k v T) : v = .bl i := h.1
theorem ow_non {v : V} {T : AS} (h : Ow K H Z .none k v T) : v = .non := h.1
/-! ### binary operators -/
def bopT : BOp → Operator
  | .add => .Add | .sub => .Sub | .mul => .Mult | .fdiv => .FloorDiv | .mod => .Mod | .pow => .Pow | .shl => .LShift | .shr => .RShift | .band => .BitAnd | .bxor => .BitXor
def rBi (g : Int → Int → Int) : R2 := fun x y H Q => ∃ b j, x = .bl b ∧ y = .int j ∧ Q (.int (g (b2i b) j)) H
theorem op_addBi {X : Cx} : OpR X (binaryOp .Add) (rBi fun a b => a + b) := by
  intro pins s σ H x y v u Q I rx ry ⟨b, j, e1, e2, q⟩
  subst e1 e2
  obtain ⟨t, rfl⟩ := ry
  cases rx
  exact IntBool.add_bool_int ⟨.int (b2i b + j), H, I.tok _, ⟨_, rfl⟩, q⟩
theorem op_subBi {X : Cx} : OpR X (binaryOp .Sub) (rBi fun a b => a - b) := by
  intro pins s σ H x y v u Q I rx ry ⟨b, j, e1, e2, q⟩
  subst e1 e2
  obtain ⟨t, rfl⟩ := ry
  cases rx
  exact IntBool.sub_bool_int ⟨.int (b2i b - j), H, I.tok _, ⟨_, rfl⟩, q⟩
theorem op_subIb {X : Cx} : OpR X (binaryOp .Sub) (fun x y H Q => ∃ i b, x = .int i ∧ y = .bl b ∧ Q (.int (i - b2i b)) H) := by
  intro pins s σ H x y v u Q I rx ry ⟨i, b, e1, e2, q⟩
  subst e1 e2
  obtain ⟨t, rfl⟩ := rx
  cases ry
  exact IntBool.sub_int_bool ⟨.int (i - b2i b), H, I.tok _, ⟨_, rfl⟩, q⟩
theorem un_negBi {X : Cx} : UnR X (unaryOp .USub) (fun x H Q => ∃ b, x = .bl b ∧ Q (.int (-(b2i b))) H) := by
  intro pins s σ H x v Q I rx ⟨b, e1, q⟩
  subst e1
  cases rx
  unfold unaryOp
  refine wpAny_holding (wpAny_bind (m := callSpecial? (.bool b) (Str.ofString "__neg__")) ?_)
  refine wpAny_callSpecial?_slot (name := Str.ofString "__neg__") rfl F.slot_bool_neg ?_
  refine wpAny_call_entry F.slot_bool_neg rfl F.entry_int_neg ?_ (F.args_int_neg_1 _)
  show wpAny _ _ (do ret (← mkInt (-(b2i b)))) _ _ s
  exact wpAny_ret_mkInt (wpAny_pure ⟨.int (-(b2i b)), H, I.tok _, ⟨_, rfl⟩, q⟩)
def rB (K : PySem.W.Frag) : BOp → R2
  | .add => fun x y H Q => rI0 (fun i j => .int (i + j)) x y H Q ∨ ((∃ i j, x = .str i ∧ y = .str j ∧ i.length + j.length ≤ sizeLine ∧ Q (.str (i ++ j)) H) ∨ ((rCat x y H Q ∨ rCatA K x y H Q) ∨ rBi (fun a b => a + b) x y H Q))
  | .sub => fun x y H Q => rI0 (fun i j => .int (i - j)) x y H Q ∨ (rBi (fun a b => a - b) x y H Q ∨ ∃ i b, x = .int i ∧ y = .bl b ∧ Q (.int (i - b2i b)) H)
  | .mul => fun x y H Q => rI CMul (fun i j => .int (i * j)) x y H Q ∨ rRep x y H Q
  | .fdiv => rI CDiv fun i j => .int (i / j)
  | .mod => rI (fun _ j => 0 < j) fun i j => .int (i % j)
  | .pow => rI CPow fun i j => .int (i ^ j.toNat)
  | .shl => rI CPow fun i j => .int (i * 2 ^ j.toNat)
  | .shr => rI (fun _ j => 0 ≤ j) fun i j => .int (i / 2 ^ j.toNat)
  | .band => rI0 fun i j => .int (Builtin.bitAnd i j)
  | .bxor => rI0 fun i j => .int (Builtin.bitXor i j)
theorem opr_bin {X : Cx} (o : BOp) : OpR X (binaryOp (bopT o)) (rB X.K o) := by
  cases o with
  | add => exact opr_or op_add (opr_or op_add_str (opr_or (opr_or op_cat op_catA) op_addBi))
  | sub => exact opr_or op_sub (opr_or op_subBi op_subIb)
  | mul => exact opr_or op_mul op_rep
  | fdiv => exact op_fdiv
  | mod => exact op_mod
  | pow => exact op_pow
  | shl => exact op_shl
  | shr => exact op_shr
  | band => exact op_and
  | bxor => exact op_xor
theorem flat_rep : ∀ (n : Nat) {l : List D} {vs : List V}, FzL K H Z l vs → FzL K H Z (List.replicate n l).flatten (List.replicate n vs).flatten
  | 0, _, _, _ => rfl
  | n + 1, _, _, h => by
    rw [List.replicate_succ, List.replicate_succ, List.flatten_cons, List.flatten_cons]
    exact h.app (flat_rep n h)
theorem bin_fin {o : BOp} {a b : D} {va vb : V} {ka kb : Nat} {Ta Tb : AS} (e : binD o a b = some d) (s : SR K B σ ρ H Z F) (oa : Ow K H Z a ka va Ta) (ob : Ow K H Z b kb vb Tb) (ha : ka ≤ 1) (hb : kb ≤ 1) (hk : k ≤ 1)
    (q : Kn K B σ ρ H Z F d k Q) : rB K o va vb H Q := by
  unfold binD at e
  split at e
  · cases e; exact .inl ⟨_, _, ow_int oa, ow_int ob, kn_int q s⟩
  · cases e; exact .inr (.inr (.inr ⟨_, _, ow_bl oa, ow_int ob, kn_int q s⟩))
  · cases e; exact .inr (.inl ⟨_, _, ow_bl oa, ow_int ob, kn_int q s⟩)
  · split at e
    · rename_i h; cases e; exact .inr (.inl ⟨_, _, ow_str oa, ow_str ob, fits_le h, kn_str q s⟩)
    · cases e
  · split at e
    · rename_i h
      cases e
      obtain ⟨p, vs, rfl, hp, fp⟩ := seq_of_ow oa ha
      obtain ⟨p', vs', rfl, hp', fp'⟩ := seq_of_ow ob hb
      have z := fits_le h
      rw [fp.length, fp'.length] at z
      exact .inr (.inr (.inl (.inl ⟨p, p', vs, vs', rfl, rfl, hp, hp', z, fun p n => kn_lst q s n (fp.app fp') (by rw [List.length_append]; exact z) hk⟩)))
    · cases e
  · split at e
    · rename_i h
      cases e
      obtain ⟨p, vs, rfl, hp, fp⟩ := tup_of_ow oa
      obtain ⟨p', vs', rfl, hp', fp'⟩ := tup_of_ow ob
      have z := fits_le h
      rw [fp.length, fp'.length] at z
      refine .inr (.inr (.inl (.inr ⟨p, p', vs, vs', rfl, rfl, hp, hp', z, fun e1 => ?_, fun _ e2 => ?_, fun _ _ p n => kn_tup q s n (fp.app fp') (by rw [List.length_append]; exact z)⟩)))
      · subst e1
        have f := fp.app fp'
        rw [List.nil_append] at f
        exact kn_tup0 q s f hp'
      · subst e2
        have f := fp.app fp'
        rw [List.append_nil] at f
        exact kn_tup0 q s f hp
    · cases e
  · cases e; exact .inl ⟨_, _, ow_int oa, ow_int ob, kn_int q s⟩
  · cases e; exact .inr (.inr ⟨_, _, ow_int oa, ow_bl ob, kn_int q s⟩)
  · split at e
    · rename_i h; cases e; exact .inl ⟨_, _, ow_int oa, ow_int ob, h, kn_int q s⟩
    · cases e
  · split at e
    · rename_i h
      obtain ⟨h, h63⟩ := h
      cases e
      obtain ⟨p, vs, rfl, hp, fp⟩ := seq_of_ow oa ha
      have z := fits_le h
      rw [fp.length] at z
      exact .inr ⟨p, _, vs, rfl, ow_int ob, hp, h63.1, h63.2, z, fun p n => kn_lst q s n (flat_rep _ fp) (by rw [List.length_flatten, List.map_replicate, List.sum_replicate_nat, Nat.mul_comm]; exact z) hk⟩
    · cases e
  · split at e
    · rename_i h; cases e; exact ⟨_, _, ow_int oa, ow_int ob, h, kn_int q s⟩
    · cases e
  · split at e
    · rename_i h; cases e; exact ⟨_, _, ow_int oa, ow_int ob, h, kn_int q s⟩
    · cases e
  · split at e
    · rename_i h; cases e; exact ⟨_, _, ow_int oa, ow_int ob, h, kn_int q s⟩
    · cases e
  · split at e
    · rename_i h; cases e; exact ⟨_, _, ow_int oa, ow_int ob, h, kn_int q s⟩
    · cases e
  · split at e
    · rename_i h; cases e; exact ⟨_, _, ow_int oa, ow_int ob, h, kn_int q s⟩
    · cases e
  · cases e; exact ⟨_, _, ow_int oa, ow_int ob, kn_int q s⟩
  · cases e; exact ⟨_, _, ow_int oa, ow_int ob, kn_int q s⟩
  · cases e
/-- pairs of numbers, the one behind the other -/
def rGtP (K : PySem.W.Frag) : R2 := fun x y H Q => ∃ (m n : Addr) (a b c d : Int), x = .ref m ∧ y = .ref n ∧ SqT K H m [.int a, .int b] ∧ SqT K H n [.int c, .int d] ∧ Q (.bl (decide (c < a ∨ (c = a ∧ d < b)))) H
/-! ### comparisons -/
def copT : COp → CmpOp
  | .eq => .Eq | .ne => .NotEq | .lt => .Lt | .le => .LtE | .gt => .Gt | .ge => .GtE | .isN => .Is | .notN => .IsNot | .isB _ => .Is | .notB _ => .IsNot | .mem => .In | .nmem => .NotIn
def rInT (K : PySem.W.Frag) : R2 := fun x y H Q => ∃ d ds, Dp K H x d ∧ Dp K H y (.tuple ds) ∧ SeqAt.shaped d = true ∧ SeqAt.shaped (.tuple ds) = true ∧ Q (.bl (ds.any fun z => PyData.eqv z d)) H
def rNotInT (K : PySem.W.Frag) : R2 := fun x y H Q => ∃ d ds, Dp K H x d ∧ Dp K H y (.tuple ds) ∧ SeqAt.shaped d = true ∧ SeqAt.shaped (.tuple ds) = true ∧ Q (.bl (!ds.any fun z => PyData.eqv z d)) H
theorem op_inT {X : Cx} (hu : X.A.units + 65 < cLine) : OpR X (compareOp .In) (rInT X.K) := fun pins s σ H x y v u Q I rx ry h => by
  obtain ⟨d, ds, h1, h2, h3, h4, q⟩ := h
  obtain ⟨as, r1⟩ := Dp.reads I d x v h1 rx
  obtain ⟨bs, r2⟩ := Dp.reads I (.tuple ds) y u h2 ry
  exact SeqAt.in_tuple_reads r2 r1 (SeqAt.canLay_of_shaped (show SeqAt.shaped (.list ds) = true from h4)) (SeqAt.canLay_of_shaped h3) (room_in_shaped h3 hu) ⟨.bl _, H, I, rfl, q⟩
theorem op_notInT {X : Cx} (hu : X.A.units + 65 < cLine) : OpR X (compareOp .NotIn) (rNotInT X.K) := fun pins s σ H x y v u Q I rx ry h => by
  obtain ⟨d, ds, h1, h2, h3, h4, q⟩ := h
  obtain ⟨as, r1⟩ := Dp.reads I d x v h1 rx
  obtain ⟨bs, r2⟩ := Dp.reads I (.tuple ds) y u h2 ry
  exact SeqAt.notIn_tuple_reads r2 r1 (SeqAt.canLay_of_shaped (show SeqAt.shaped (.list ds) = true from h4)) (SeqAt.canLay_of_shaped h3) (room_in_shaped h3 hu) ⟨.bl _, H, I, rfl, q⟩
def rC (K : PySem.W.Frag) : COp → R2
  | .eq => fun x y H Q => rEq x y H Q ∨ rEqD K x y H Q
  | .ne => fun x y H Q => rNe x y H Q ∨ rNeD K x y H Q
  | .lt => rI0 fun i j => .bl (decide (i < j))
  | .le => rI0 fun i j => .bl (decide (i ≤ j))
  | .gt => fun x y H Q => rI0 (fun i j => .bl (decide (j < i))) x y H Q ∨ rGtP K x y H Q
  | .ge => rI0 fun i j => .bl (decide (j ≤ i))
  | .isN => fun x y H Q => y = .non ∧ Q (.bl (decide (x = .non))) H
  | .notN => fun x y H Q => y = .non ∧ Q (.bl (!decide (x = .non))) H
  | .isB _ => rIsB
  | .notB _ => rNotB
  | .mem => fun x y H Q => (∃ i j, x = .str i ∧ y = .str j ∧ Q (.bl (!(Builtin.Str.occurrences j i 0 j.length 1).isEmpty)) H) ∨ (rInD K x y H Q ∨ (rIn K false x y H Q ∨ rInT K x y H Q))
  | .nmem => fun x y H Q => (∃ i j, x = .str i ∧ y = .str j ∧ Q (.bl (!(!(Builtin.Str.occurrences j i 0 j.length 1).isEmpty))) H) ∨ (rNotInD K x y H Q ∨ (rIn K true x y H Q ∨ rNotInT K x y H Q))
theorem op_gtP {X : Cx} (small : X.A.units < cLine) : OpR X (compareOp .Gt) (rGtP X.K) := fun pins s σ H x y v u Q inv relx rely hh => by
  obtain ⟨m, n, a, b, c, d, rfl, rfl, hm, hn, fin⟩ := hh
  cases relx
  cases rely
  obtain ⟨l1, v1, t1, _⟩ := inv.tuple hm
  obtain ⟨l2, v2, t2, _⟩ := inv.tuple hn
  cases v1 with
  | cons p1 v1 =>
    cases v1 with
    | cons p2 v1 =>
      cases v1
      cases v2 with
      | cons q1 v2 =>
        cases v2 with
        | cons q2 v2 =>
          cases v2
          obtain ⟨k1, rfl⟩ := p1
          obtain ⟨k2, rfl⟩ := p2
          obtain ⟨k3, rfl⟩ := q1
          obtain ⟨k4, rfl⟩ := q2
          have key := Ob.RcOp.tuples_gt (A := X.A) (s := s) (e := fun j => if j = 0 then (a == c) else (b == d)) (r := fun j => if j = 0 then decide (c < a) else decide (d < b)) t1 t2 small
            (fun j g1 g2 => by
              match j, g1, g2 with
              | 0, _, _ => exact SeqAt.EqAt.int_int _ _ _ _
              | 1, _, _ => exact SeqAt.EqAt.int_int _ _ _ _
              | j + 2, g1, _ => exact absurd g1 (by simp))
            (fun j g1 g2 _ => by
              match j, g1, g2 with
              | 0, _, _ => exact Ob.RcOp.gt_int _ _ _ _
              | 1, _, _ => exact Ob.RcOp.gt_int _ _ _ _
              | j + 2, g1, _ => exact absurd g1 (by simp))
          refine key X.prog X.w X.xe _ ⟨.bl _, H, inv, ?_, fin⟩
          simp [Ob.lexAt]
          rw [show (decide (c < a) || decide (c = a) && decide (d < b)) = (if a = c then !decide (b = d) && decide (d < b) else decide (c < a)) from by
            by_cases g1 : a = c
            · subst g1
              by_cases g2 : b = d
              · subst g2
                simp
              · simp [g2]
            · simp [g1, show ¬ c = a from fun z => g1 z.symm]]
          exact rfl
theorem opr_cmp {X : Cx} (hu : X.A.units + 65 < cLine) (o : COp) : OpR X (compareOp (copT o)) (rC X.K o) := by
  cases o with
  | eq => exact opr_or op_eq (op_eqD (by omega))
  | ne => exact opr_or op_ne (op_neD (by omega))
  | lt => exact op_lt
  | le => exact op_le
  | gt => exact opr_or op_gt (op_gtP (by omega))
  | ge => exact op_ge
  | isN => exact op_isN
  | notN => exact op_notN
  | isB _ => exact op_isBl
  | notB _ => exact op_notBl
  | mem => exact opr_or op_in_str (opr_or (op_inD hu) (opr_or op_in_seq (op_inT hu)))
  | nmem => exact opr_or op_notin_str (opr_or (op_notInD hu) (opr_or op_notIn_seq (op_notInT hu)))
/-- what the right side of a comparison has to be -/
def cRight : COp → Ex → Bool
  | .isN, .non => true
  | .isN, _ => false
  | .notN, .non => true
  | .notN, _ => false
  | .isB b, .bl c => b == c
  | .isB _, _ => false
  | .notB b, .bl c => b == c
  | .notB _, _ => false
  | _, _ => true
theorem isNon_iff {a : D} {v : V} {T : AS} (h : Ow K H Z a k v T) : decide (v = .non) = isNon a := by
  cases a with
  | none => cases h.1; rfl
  | bool _ => cases h.1; rfl
  | int _ => cases h.1; rfl
  | str _ => cases h.1; rfl
  | list l =>
    cases h.dp
    rfl
  | tuple l =>
    cases h.dp
    rfl
  | dict _ => unfold Ow at h; exact h.elim
theorem eqS_iff {a b : D} {va vb : V} {ka kb : Nat} {Ta Tb : AS} (e : isScal a b = true) (oa : Ow K H Z a ka va Ta) (ob : Ow K H Z b kb vb Tb) : scal va vb = true ∧ decide (va = vb) = eqS a b := by
  cases a <;> cases b <;> first
    | (exfalso; exact Bool.noConfusion e)
    | (cases oa.1; cases ob.1; exact ⟨rfl, by simp [eqS]⟩)
theorem flat_ow {a : D} {k : Nat} {v : V} {Ta : AS} (h : Ow K H Z a k v Ta) (f : flatD a = true) : v = flV a ∧ flatV v = true := by
  cases a with
  | none => cases h.1; exact ⟨rfl, rfl⟩
  | bool _ => cases h.1; exact ⟨rfl, rfl⟩
  | int _ => cases h.1; exact ⟨rfl, rfl⟩
  | str _ => cases h.1; exact ⟨rfl, rfl⟩
  | _ => cases f
theorem flat_fzL : ∀ {l : List D} {vs : List V}, FzL K H Z l vs → l.all flatD = true → vs = l.map flV ∧ vs.all flatV = true
  | [], _, h, _ => by
    unfold FzL at h
    subst h
    exact ⟨rfl, rfl⟩
  | d :: ds, _, h, f => by
    unfold FzL at h
    obtain ⟨v, ws, rfl, h1, h2⟩ := h
    rw [List.all_cons, Bool.and_eq_true] at f
    obtain ⟨e1, e2⟩ := flat_ow (k := 0) (ow_zero.2 ⟨h1, fun _ z => z⟩ : Ow K H Z d 0 v fun _ => False) f.1
    obtain ⟨g1, g2⟩ := flat_fzL h2 f.2
    exact ⟨by rw [List.map_cons, ← e1, ← g1], by rw [List.all_cons, e2, g2]; rfl⟩
theorem two_fz {a b : Int} {vs : List V} (h : FzL K H Z [.int a, .int b] vs) : vs = [V.int a, V.int b] := by
  simp only [FzL, Fz] at h
  obtain ⟨v, ws, rfl, rfl, w, us, rfl, rfl, rfl⟩ := h
  rfl
theorem cmp_fin {o : COp} {a b : D} {va vb : V} {ka kb : Nat} {Ta Tb : AS} {z : Bool} (e : cmpD o a b = some z) (s : SR K B σ ρ H Z F) (oa : Ow K H Z a ka va Ta) (ob : Ow K H Z b kb vb Tb)
    (hr : (o = .isN ∨ o = .notN → b = .none) ∧ ∀ c, o = .isB c ∨ o = .notB c → b = .bool c) (q : Q (.bl z) H) : rC K o va vb H Q := by
  have eqc : ∀ {z : Bool}, eqD a b = some z → (scal va vb = true ∧ decide (va = vb) = z) ∨ (SeqAt.shaped a = true ∧ SeqAt.shaped b = true ∧ PyData.eqv a b = z) := fun {z} e => by
    unfold eqD at e
    split at e
    · rename_i h
      cases e
      exact .inl (eqS_iff h oa ob)
    · split at e
      · rename_i h
        cases e
        rw [Bool.and_eq_true] at h
        exact .inr ⟨h.1, h.2, rfl⟩
      · cases e
  have mem : ∀ {z : Bool}, memD a b = some z → (∃ i j, va = .str i ∧ vb = .str j ∧ (!(Builtin.Str.occurrences j i 0 j.length 1).isEmpty) = z) ∨ (∃ ds, Dp K H va a ∧ Dp K H vb (.list ds) ∧ SeqAt.shaped a = true ∧ SeqAt.shaped (.list ds) = true ∧ (ds.any fun y => PyData.eqv y a) = z) ∨ (∃ p xs, vb = .ref p ∧ SqT K H p xs ∧ flatV va = true ∧ xs.all flatV = true ∧ inV va xs = z) ∨ (∃ ds, Dp K H va a ∧ Dp K H vb (.tuple ds) ∧ SeqAt.shaped a = true ∧ SeqAt.shaped (.tuple ds) = true ∧ (ds.any fun y => PyData.eqv y a) = z) := fun {z} e => by
    unfold memD at e
    split at e
    · split at e
      · rename_i h
        cases e
        rw [Bool.and_eq_true] at h
        exact .inr (.inl ⟨_, oa.dp, ob.dp, h.1, h.2, rfl⟩)
      · cases e
    · split at e
      · rename_i h
        cases e
        rw [Bool.and_eq_true] at h
        obtain ⟨p, vs, e1, e2, e3⟩ := tup_of_ow ob
        obtain ⟨f1, f2⟩ := flat_ow oa h.1
        obtain ⟨g1, g2⟩ := flat_fzL e3 h.2
        exact .inr (.inr (.inl ⟨p, vs, e1, e2, f2, g2, by rw [f1, g1]⟩))
      · split at e
        · rename_i h
          cases e
          rw [Bool.and_eq_true] at h
          exact .inr (.inr (.inr ⟨_, oa.dp, ob.dp, h.1, h.2, rfl⟩))
        · cases e
    · split at e
      · cases e
        exact .inl ⟨_, _, ow_str oa, ow_str ob, rfl⟩
      · cases e
    · cases e
  unfold cmpD at e
  split at e
  · rcases eqc e with ⟨h1, h2⟩ | ⟨h1, h2, h3⟩
    · exact .inl ⟨h1, by rw [h2]; exact q⟩
    · exact .inr ⟨_, _, oa.dp, ob.dp, h1, h2, by rw [h3]; exact q⟩
  · obtain ⟨y, e', rfl⟩ := Option.map_eq_some_iff.mp e
    rcases eqc e' with ⟨h1, h2⟩ | ⟨h1, h2, h3⟩
    · exact .inl ⟨h1, by rw [h2]; exact q⟩
    · exact .inr ⟨_, _, oa.dp, ob.dp, h1, h2, by rw [h3]; exact q⟩
  · cases e; exact ⟨_, _, ow_int oa, ow_int ob, q⟩
  · cases e; exact ⟨_, _, ow_int oa, ow_int ob, q⟩
  · cases e; exact .inl ⟨_, _, ow_int oa, ow_int ob, q⟩
  · cases e
    obtain ⟨m, vs, rfl, hm, fm⟩ := tup_of_ow oa
    obtain ⟨n, ws, rfl, hn, fn⟩ := tup_of_ow ob
    exact .inr ⟨m, n, _, _, _, _, rfl, rfl, two_fz fm ▸ hm, two_fz fn ▸ hn, q⟩
  · cases e; exact ⟨_, _, ow_int oa, ow_int ob, q⟩
  · cases e
    have hb := hr.1 (.inl rfl)
    subst hb
    exact ⟨ow_non ob, by rw [isNon_iff oa]; exact q⟩
  · cases e
    have hb := hr.1 (.inr rfl)
    subst hb
    exact ⟨ow_non ob, by rw [isNon_iff oa]; exact q⟩
  · have hb := hr.2 _ (.inl rfl)
    subst hb
    unfold isBc at e
    split at e
    · cases e; exact ⟨_, _, ow_bl oa, ow_bl ob, q⟩
    · cases e
  · have hb := hr.2 _ (.inr rfl)
    subst hb
    obtain ⟨y, e', rfl⟩ := Option.map_eq_some_iff.mp e
    unfold isBc at e'
    split at e'
    · cases e'; exact ⟨_, _, ow_bl oa, ow_bl ob, q⟩
    · cases e'
  · rcases mem e with ⟨i, j, e1, e2, e3⟩ | ⟨ds, h1, h2, h3, h4, h5⟩ | ⟨p, xs, h1, h2, h3, h4, h5⟩ | ⟨ds, h1, h2, h3, h4, h5⟩
    · exact .inl ⟨i, j, e1, e2, by rw [e3]; exact q⟩
    · exact .inr (.inl ⟨_, ds, h1, h2, h3, h4, by rw [h5]; exact q⟩)
    · exact .inr (.inr (.inl ⟨p, xs, h1, .inr h2, h3, h4, by rw [h5]; exact q⟩))
    · exact .inr (.inr (.inr ⟨_, ds, h1, h2, h3, h4, by rw [h5]; exact q⟩))
  · obtain ⟨y, e', rfl⟩ := Option.map_eq_some_iff.mp e
    rcases mem e' with ⟨i, j, e1, e2, e3⟩ | ⟨ds, h1, h2, h3, h4, h5⟩ | ⟨p, xs, h1, h2, h3, h4, h5⟩ | ⟨ds, h1, h2, h3, h4, h5⟩
    · exact .inl ⟨i, j, e1, e2, by rw [e3]; exact q⟩
    · exact .inr (.inl ⟨_, ds, h1, h2, h3, h4, by rw [h5]; exact q⟩)
    · exact .inr (.inr (.inl ⟨p, xs, h1, .inr h2, h3, h4, by rw [h5]; exact q⟩))
    · exact .inr (.inr (.inr ⟨_, ds, h1, h2, h3, h4, by rw [h5]; exact q⟩))
  · cases e
end
end
end BW

/-! BwE4: operators, comparisons, and, or, not, displays, items, slices: the rules. -/
namespace BW
noncomputable section
open PySem PySem.Spec PyProof.Rows L2
section
variable {X : Cx} {B : Bk} {C : Calls} {G : Nat → D} {k : Nat} {pos : Pos} {ea eb ec : Ex} {a b c : Expr}
abbrev opX (C : Calls) (G : Nat → D) (e : Ex) : Env → Option (Op × Env) := opE e (evE C G e)
theorem s_bin {o : BOp} (ha : PE X a (spO X.K B (opX C G ea))) (hb : PE X b (spO X.K B (opX C G eb))) (hk : k ≤ 1) : PE X (.BinOp a (bopT o) b pos) (spE X.K B C G (.bin o ea eb) k) :=
  (pe_op (opr_bin o) ha hb).imp fun σ H Q ⟨ρ, Z, F, d, ρ', s, e, q⟩ => by
    simp only [evE] at e
    obtain ⟨⟨p, ρ1⟩, e1, e⟩ := Option.bind_eq_some_iff.mp e
    obtain ⟨⟨p', ρ2⟩, e2, e⟩ := Option.bind_eq_some_iff.mp e
    obtain ⟨⟨k1, x⟩, e3, e⟩ := Option.bind_eq_some_iff.mp e
    obtain ⟨⟨k2, y⟩, e4, e⟩ := Option.bind_eq_some_iff.mp e
    dsimp only at e2 e3 e4 e
    split at e
    · rename_i h
      obtain ⟨z, e5, e⟩ := Option.bind_eq_some_iff.mp e
      cases e
      refine spO_two s e1 e2 fun v v' H' Z' F' s' ps o1 o2 => ?_
      obtain ⟨T1, w1⟩ := o1.view s' e3
      obtain ⟨T2, w2⟩ := o2.view s' e4
      exact bin_fin e5 s' w1 w2 h.1 h.2 hk (q.pre ps)
    · cases e
theorem un_negN {X : Cx} : UnR X (unaryOp .USub) (fun x H Q => rU (fun i => .int (-i)) x H Q ∨ ∃ b, x = .bl b ∧ Q (.int (-(b2i b))) H) := by
  intro pins s σ H x v Q I rx h
  rcases h with h | h
  · exact un_neg _ _ _ _ _ _ _ I rx h
  · exact un_negBi _ _ _ _ _ _ _ I rx h
theorem s_neg (ha : PE X a (spE X.K B C G ea 0)) : PE X (.UnaryOp .USub a pos) (spE X.K B C G (.neg ea) k) :=
  (pe_un un_negN ha).imp fun σ H Q ⟨ρ, Z, F, d, ρ', s, e, q⟩ => by
    simp only [evE] at e
    obtain ⟨⟨x, ρ1⟩, e1, e⟩ := Option.bind_eq_some_iff.mp e
    obtain ⟨i, e2, e⟩ := Option.bind_eq_some_iff.mp e
    cases e
    refine ⟨ρ, Z, F, x, _, s, e1, fun v H' Z' F' T s' r o => ?_⟩
    cases x <;> cases e2
    · exact .inr ⟨_, ow_bl o, kn_int (q.pre r.ps) s'⟩
    · exact .inl ⟨_, ow_int o, kn_int (q.pre r.ps) s'⟩
theorem cmp_two {o : COp} (hr : cRight o eb = true) {ρ1 ρ2 : Env} {p' : Op} {k : Nat} {y : D} (e2 : opX C G eb ρ1 = some (p', ρ2)) (e4 : vw ρ2 p' = some (k, y)) : (o = .isN ∨ o = .notN → y = .none) ∧ ∀ c, o = .isB c ∨ o = .notB c → y = .bool c := by
  refine ⟨fun h => ?_, fun c h => ?_⟩
  · have hb : eb = .non := by
      rcases h with rfl | rfl <;> (cases eb <;> first | rfl | exact absurd hr (by intro z; exact Bool.noConfusion z))
    subst hb
    simp only [opX, opE, evE] at e2
    cases e2
    cases e4
    rfl
  · have hb : eb = .bl c := by
      rcases h with rfl | rfl <;> (cases eb <;> first | (exact congrArg Ex.bl (eq_of_beq hr).symm) | exact absurd hr (by intro z; exact Bool.noConfusion z))
    subst hb
    simp only [opX, opE, evE] at e2
    cases e2
    cases e4
    rfl
theorem cmp_tO {o : COp} (hr : cRight o eb = true) {σ : L2.St} {H : Hp} {Q : VK} {ρ ρ' : Env} {Z : AS} {F : FS} {d : D} (s : SR X.K B σ ρ H Z F) (e : evE C G (.cmp o ea eb) ρ = some (d, ρ'))
    (q : ∀ z H' Z' F', d = .bool z → SR X.K B σ ρ' H' Z' F' → Ps H Z F H' Z' F' → Q (.bl z) H') : tOp (rC X.K o) (spO X.K B (opX C G ea)) (spO X.K B (opX C G eb)) σ H Q := by
  simp only [evE] at e
  obtain ⟨⟨p, ρ1⟩, e1, e⟩ := Option.bind_eq_some_iff.mp e
  obtain ⟨⟨p', ρ2⟩, e2, e⟩ := Option.bind_eq_some_iff.mp e
  obtain ⟨⟨k1, x⟩, e3, e⟩ := Option.bind_eq_some_iff.mp e
  obtain ⟨⟨k2, y⟩, e4, e⟩ := Option.bind_eq_some_iff.mp e
  obtain ⟨z, e5, e⟩ := Option.bind_eq_some_iff.mp e
  dsimp only at e2 e3 e4 e5 e
  cases e
  refine spO_two s e1 e2 fun v v' H' Z' F' s' ps o1 o2 => ?_
  obtain ⟨T1, w1⟩ := o1.view s' e3
  obtain ⟨T2, w2⟩ := o2.view s' e4
  exact cmp_fin e5 s' w1 w2 (cmp_two hr e2 e4) (q z H' Z' F' rfl s' ps)
theorem s_cmp {o : COp} (hu : X.A.units + 65 < cLine) (ha : PE X a (spO X.K B (opX C G ea))) (hb : PE X b (spO X.K B (opX C G eb))) (hr : cRight o eb = true) (hm : behindInMarks (copT o) b = false) : PE X (.Compare a [copT o] [b] pos) (spE X.K B C G (.cmp o ea eb) k) :=
  (pe_cmpR (opr_cmp hu o) ha hb hm).imp fun σ H Q ⟨ρ, Z, F, d, ρ', s, e, q⟩ => cmp_tO hr s e fun z H' Z' F' ed s' ps => by
    subst ed
    exact kn_bl (q.pre ps) s'
theorem t_cmp {o : COp} (hu : X.A.units + 65 < cLine) (ha : PE X a (spO X.K B (opX C G ea))) (hb : PE X b (spO X.K B (opX C G eb))) (hr : cRight o eb = true) (hm : behindInMarks (copT o) b = false) : PT X (.Compare a [copT o] [b] pos) (spT X.K B (evE C G (.cmp o ea eb))) :=
  (pt_cmpR (opr_cmp hu o) ha hb hm).imp fun σ H Q ⟨ρ, Z, F, d, ρ', s, e, q⟩ => cmp_tO hr s e fun z H' Z' F' ed s' ps => by
    cases ed
    exact ⟨_, rfl, q H' Z' F' s' ps⟩
theorem chn_tO {o o' : COp} (hr : cRight o eb = true) (hr' : cRight o' ec = true) {σ : L2.St} {H : Hp} {Q : VK} {ρ ρ' : Env} {Z : AS} {F : FS} {d : D} (s : SR X.K B σ ρ H Z F) (e : evE C G (.chn o o' ea eb ec) ρ = some (d, ρ'))
    (q : ∀ z H' Z' F', d = .bool z → SR X.K B σ ρ' H' Z' F' → Ps H Z F H' Z' F' → Q (.bl z) H') : tChain (rC X.K o) (rC X.K o') (spO X.K B (opX C G ea)) (spO X.K B (opX C G eb)) (spO X.K B (opX C G ec)) σ H Q := by
  simp only [evE] at e
  obtain ⟨⟨p, ρ1⟩, e1, e⟩ := Option.bind_eq_some_iff.mp e
  obtain ⟨⟨p', ρ2⟩, e2, e⟩ := Option.bind_eq_some_iff.mp e
  obtain ⟨⟨k1, x⟩, e3, e⟩ := Option.bind_eq_some_iff.mp e
  obtain ⟨⟨k2, y⟩, e4, e⟩ := Option.bind_eq_some_iff.mp e
  obtain ⟨z, e5, e⟩ := Option.bind_eq_some_iff.mp e
  dsimp only at e2 e3 e4 e5 e
  show spO X.K B (opX C G ea) σ H _
  refine ⟨ρ, Z, F, p, ρ1, s, e1, fun v H1 Z1 F1 s1 q1 o1 => ⟨ρ1, Z1, F1, p', ρ2, s1, e2, fun v' H' Z' F' s' q2 o2 => ?_⟩⟩
  have ps := q1.trans q2
  obtain ⟨T1, w1⟩ := (o1.ps s1 q2).view s' e3
  obtain ⟨T2, w2⟩ := o2.view s' e4
  refine cmp_fin e5 s' w1 w2 (cmp_two hr e2 e4) ?_
  cases z with
  | false =>
    simp only [if_false, Bool.false_eq_true] at e
    cases e
    exact ⟨false, rfl, by rw [if_neg Bool.false_ne_true]; exact q false H' Z' F' rfl s' ps⟩
  | true =>
    simp only [if_true] at e
    obtain ⟨⟨p3, ρ3⟩, e6, e⟩ := Option.bind_eq_some_iff.mp e
    obtain ⟨⟨k3, y3⟩, e7, e⟩ := Option.bind_eq_some_iff.mp e
    obtain ⟨⟨k4, w⟩, e8, e⟩ := Option.bind_eq_some_iff.mp e
    obtain ⟨z, e9, e⟩ := Option.bind_eq_some_iff.mp e
    dsimp only at e6 e7 e8 e9 e
    cases e
    refine ⟨true, rfl, ?_⟩
    rw [if_pos rfl]
    refine ⟨ρ2, Z', F', p3, _, s', e6, fun v3 H3 Z3 F3 s3 q3 o3 => ?_⟩
    obtain ⟨T3, w3⟩ := (o2.ps s' q3).view s3 e7
    obtain ⟨T4, w4⟩ := o3.view s3 e8
    exact cmp_fin e9 s3 w3 w4 (cmp_two hr' e6 e8) (q z H3 Z3 F3 rfl s3 (ps.trans q3))
theorem s_chn {o o' : COp} (hu : X.A.units + 65 < cLine) (ha : PE X a (spO X.K B (opX C G ea))) (hb : PE X b (spO X.K B (opX C G eb))) (hc : PE X c (spO X.K B (opX C G ec))) (hr : cRight o eb = true) (hr' : cRight o' ec = true) (hm : lastMarks [copT o, copT o'] [b, c] = false) :
    PE X (.Compare a [copT o, copT o'] [b, c] pos) (spE X.K B C G (.chn o o' ea eb ec) k) :=
  (pe_chain (opr_cmp hu o) (opr_cmp hu o') ha hb hc hm).imp fun σ H Q ⟨ρ, Z, F, d, ρ', s, e, q⟩ => chn_tO hr hr' s e fun z H' Z' F' ed s' ps => by
    subst ed
    exact kn_bl (q.pre ps) s'
theorem t_chn {o o' : COp} (hu : X.A.units + 65 < cLine) (ha : PE X a (spO X.K B (opX C G ea))) (hb : PE X b (spO X.K B (opX C G eb))) (hc : PE X c (spO X.K B (opX C G ec))) (hr : cRight o eb = true) (hr' : cRight o' ec = true) (hm : lastMarks [copT o, copT o'] [b, c] = false) :
    PT X (.Compare a [copT o, copT o'] [b, c] pos) (spT X.K B (evE C G (.chn o o' ea eb ec))) :=
  (pt_chain (opr_cmp hu o) (opr_cmp hu o') ha hb hc hm).imp fun σ H Q ⟨ρ, Z, F, d, ρ', s, e, q⟩ => chn_tO hr hr' s e fun z H' Z' F' ed s' ps => by
    cases ed
    exact ⟨_, rfl, q H' Z' F' s' ps⟩
/-- an expression's value as a test -/
theorem t_of {e : Ex} (he : PE X a (spE X.K B C G e 0)) (ht : ∀ whole, isTrue a X.env whole = (do let v ← whole; standAt a.pos; holding [v] (truthy v))) : PT X a (spT X.K B (evE C G e)) :=
  (pt_val he ht).imp fun σ H Q ⟨ρ, Z, F, d, ρ', s, e, q⟩ => ⟨ρ, Z, F, _, ρ', s, e, fun v H' Z' F' T s' r o => ⟨d, ow_bl o, q H' Z' F' s' r.ps⟩⟩
/-! ### and, or, not -/
theorem s_not (ha : PE X a (spE X.K B C G ea 0)) : PE X (.UnaryOp .Not a pos) (spE X.K B C G (.not ea) k) :=
  (pe_not ha).imp fun σ H Q ⟨ρ, Z, F, d, ρ', s, e, q⟩ => by
    simp only [evE] at e
    obtain ⟨⟨x, ρ1⟩, e1, e⟩ := Option.bind_eq_some_iff.mp e
    obtain ⟨i, e2, e⟩ := Option.bind_eq_some_iff.mp e
    cases e
    refine ⟨ρ, Z, F, x, _, s, e1, fun v H' Z' F' T s' r o => ?_⟩
    cases x <;> cases e2
    exact ⟨_, ow_bl o, kn_bl (q.pre r.ps) s'⟩
theorem t_not (ha : PT X a (spT X.K B (evE C G ea))) : PT X (.UnaryOp .Not a pos) (spT X.K B (evE C G (.not ea))) :=
  (pt_not ha).imp fun σ H Q ⟨ρ, Z, F, d, ρ', s, e, q⟩ => by
    simp only [evE] at e
    obtain ⟨⟨x, ρ1⟩, e1, e⟩ := Option.bind_eq_some_iff.mp e
    obtain ⟨i, e2, e⟩ := Option.bind_eq_some_iff.mp e
    cases x <;> cases e2
    cases e
    exact ⟨ρ, Z, F, i, _, s, e1, fun H' Z' F' s' ps => q H' Z' F' s' ps⟩
abbrev spAnd (K : PySem.W.Frag) (B : Bk) (C : Calls) (G : Nat → D) (es : Exs) (k : Nat) : TE := spF K B (evAnd C G es) k
abbrev spOr (K : PySem.W.Frag) (B : Bk) (C : Calls) (G : Nat → D) (es : Exs) (k : Nat) : TE := spF K B (evOr C G es) k
theorem s_and1 (ha : PE X a (spE X.K B C G ea 0)) : PE X (.BoolOp .And [a] pos) (spAnd X.K B C G (.cons ea .nil) k) :=
  (pe_one ha).imp fun σ H Q ⟨ρ, Z, F, d, ρ', s, e, q⟩ => by
    simp only [evAnd] at e
    obtain ⟨⟨x, ρ1⟩, e1, e⟩ := Option.bind_eq_some_iff.mp e
    obtain ⟨i, e2, e⟩ := Option.bind_eq_some_iff.mp e
    cases x <;> cases e2
    have e3 : d = .bool i ∧ ρ' = ρ1 := by cases i <;> cases e <;> exact ⟨rfl, rfl⟩
    obtain ⟨rfl, rfl⟩ := e3
    exact ⟨ρ, Z, F, _, _, s, e1, fun v H' Z' F' T s' r o => by cases ow_bl o; exact kn_bl (q.pre r.ps) s'⟩
theorem s_and {b : Expr} {r : List Expr} {es : Exs} (ha : PE X a (spE X.K B C G ea 0)) (hb : PE X (.BoolOp .And (b :: r) pos) (spAnd X.K B C G es k)) : PE X (.BoolOp .And (a :: b :: r) pos) (spAnd X.K B C G (.cons ea es) k) :=
  (pe_and ha hb).imp fun σ H Q ⟨ρ, Z, F, d, ρ', s, e, q⟩ => by
    simp only [evAnd] at e
    obtain ⟨⟨x, ρ1⟩, e1, e⟩ := Option.bind_eq_some_iff.mp e
    obtain ⟨i, e2, e⟩ := Option.bind_eq_some_iff.mp e
    cases x <;> cases e2
    refine ⟨ρ, Z, F, _, _, s, e1, fun v H' Z' F' T s' r o => ⟨i, ow_bl o, ?_⟩⟩
    cases i with
    | true =>
      rw [if_pos rfl]
      exact ⟨ρ1, Z', F', d, ρ', s', e, q.pre r.ps⟩
    | false =>
      rw [if_neg Bool.false_ne_true]
      cases e
      exact kn_bl (q.pre r.ps) s'
theorem s_or1 (ha : PE X a (spE X.K B C G ea 0)) : PE X (.BoolOp .Or [a] pos) (spOr X.K B C G (.cons ea .nil) k) :=
  (pe_one ha).imp fun σ H Q ⟨ρ, Z, F, d, ρ', s, e, q⟩ => by
    simp only [evOr] at e
    obtain ⟨⟨x, ρ1⟩, e1, e⟩ := Option.bind_eq_some_iff.mp e
    obtain ⟨i, e2, e⟩ := Option.bind_eq_some_iff.mp e
    cases x <;> cases e2
    have e3 : d = .bool i ∧ ρ' = ρ1 := by cases i <;> cases e <;> exact ⟨rfl, rfl⟩
    obtain ⟨rfl, rfl⟩ := e3
    exact ⟨ρ, Z, F, _, _, s, e1, fun v H' Z' F' T s' r o => by cases ow_bl o; exact kn_bl (q.pre r.ps) s'⟩
theorem s_or {b : Expr} {r : List Expr} {es : Exs} (ha : PE X a (spE X.K B C G ea 0)) (hb : PE X (.BoolOp .Or (b :: r) pos) (spOr X.K B C G es k)) : PE X (.BoolOp .Or (a :: b :: r) pos) (spOr X.K B C G (.cons ea es) k) :=
  (pe_or ha hb).imp fun σ H Q ⟨ρ, Z, F, d, ρ', s, e, q⟩ => by
    simp only [evOr] at e
    obtain ⟨⟨x, ρ1⟩, e1, e⟩ := Option.bind_eq_some_iff.mp e
    obtain ⟨i, e2, e⟩ := Option.bind_eq_some_iff.mp e
    cases x <;> cases e2
    refine ⟨ρ, Z, F, _, _, s, e1, fun v H' Z' F' T s' r o => ⟨i, ow_bl o, ?_⟩⟩
    cases i with
    | false =>
      rw [if_neg Bool.false_ne_true]
      exact ⟨ρ1, Z', F', d, ρ', s', e, q.pre r.ps⟩
    | true =>
      rw [if_pos rfl]
      cases e
      exact kn_bl (q.pre r.ps) s'
theorem w_and1 (ha : PT X a (spT X.K B (evE C G ea))) : PW X (.BoolOp .And [a] pos) (spT X.K B (evAnd C G (.cons ea .nil))) :=
  ⟨fun whole pins s0 σ H Q I ⟨ρ, Z, F, d, ρ', s, e, q⟩ => (pw_and1 ha).run whole pins s0 σ H Q I (by
    simp only [evAnd] at e
    obtain ⟨⟨x, ρ1⟩, e1, e⟩ := Option.bind_eq_some_iff.mp e
    obtain ⟨i, e2, e⟩ := Option.bind_eq_some_iff.mp e
    cases x <;> cases e2
    have e3 : d = i ∧ ρ' = ρ1 := by cases i <;> cases e <;> exact ⟨rfl, rfl⟩
    obtain ⟨rfl, rfl⟩ := e3
    exact ⟨ρ, Z, F, _, _, s, e1, q⟩)⟩
theorem w_and {b : Expr} {r : List Expr} {es : Exs} (ha : PT X a (spT X.K B (evE C G ea))) (hb : PW X (.BoolOp .And (b :: r) pos) (spT X.K B (evAnd C G es))) : PW X (.BoolOp .And (a :: b :: r) pos) (spT X.K B (evAnd C G (.cons ea es))) :=
  ⟨fun whole pins s0 σ H Q I ⟨ρ, Z, F, d, ρ', s, e, q⟩ => (pw_and ha hb).run whole pins s0 σ H Q I (by
    simp only [evAnd] at e
    obtain ⟨⟨x, ρ1⟩, e1, e⟩ := Option.bind_eq_some_iff.mp e
    obtain ⟨i, e2, e⟩ := Option.bind_eq_some_iff.mp e
    cases x <;> cases e2
    refine ⟨ρ, Z, F, _, _, s, e1, fun H' Z' F' s' ps => ?_⟩
    cases i with
    | true =>
      rw [if_pos rfl]
      exact ⟨ρ1, Z', F', d, ρ', s', e, fun H2 Z2 F2 s2 p2 => q H2 Z2 F2 s2 (ps.trans p2)⟩
    | false =>
      rw [if_neg Bool.false_ne_true]
      cases e
      exact q H' Z' F' s' ps)⟩
theorem w_or1 (ha : PT X a (spT X.K B (evE C G ea))) : PW X (.BoolOp .Or [a] pos) (spT X.K B (evOr C G (.cons ea .nil))) :=
  ⟨fun whole pins s0 σ H Q I ⟨ρ, Z, F, d, ρ', s, e, q⟩ => (pw_or1 ha).run whole pins s0 σ H Q I (by
    simp only [evOr] at e
    obtain ⟨⟨x, ρ1⟩, e1, e⟩ := Option.bind_eq_some_iff.mp e
    obtain ⟨i, e2, e⟩ := Option.bind_eq_some_iff.mp e
    cases x <;> cases e2
    have e3 : d = i ∧ ρ' = ρ1 := by cases i <;> cases e <;> exact ⟨rfl, rfl⟩
    obtain ⟨rfl, rfl⟩ := e3
    exact ⟨ρ, Z, F, _, _, s, e1, q⟩)⟩
theorem w_or {b : Expr} {r : List Expr} {es : Exs} (ha : PT X a (spT X.K B (evE C G ea))) (hb : PW X (.BoolOp .Or (b :: r) pos) (spT X.K B (evOr C G es))) : PW X (.BoolOp .Or (a :: b :: r) pos) (spT X.K B (evOr C G (.cons ea es))) :=
  ⟨fun whole pins s0 σ H Q I ⟨ρ, Z, F, d, ρ', s, e, q⟩ => (pw_or ha hb).run whole pins s0 σ H Q I (by
    simp only [evOr] at e
    obtain ⟨⟨x, ρ1⟩, e1, e⟩ := Option.bind_eq_some_iff.mp e
    obtain ⟨i, e2, e⟩ := Option.bind_eq_some_iff.mp e
    cases x <;> cases e2
    refine ⟨ρ, Z, F, _, _, s, e1, fun H' Z' F' s' ps => ?_⟩
    cases i with
    | false =>
      rw [if_neg Bool.false_ne_true]
      exact ⟨ρ1, Z', F', d, ρ', s', e, fun H2 Z2 F2 s2 p2 => q H2 Z2 F2 s2 (ps.trans p2)⟩
    | true =>
      rw [if_pos rfl]
      cases e
      exact q H' Z' F' s' ps)⟩
theorem s_ite (hc : PT X c (spT X.K B (evE C G ec))) (ha : PE X a (spE X.K B C G ea k)) (hb : PE X b (spE X.K B C G eb k)) : PE X (.IfExp c a b pos) (spE X.K B C G (.ite ec ea eb) k) :=
  (pe_ifExp hc ha hb).imp fun σ H Q ⟨ρ, Z, F, d, ρ', s, e, q⟩ => by
    simp only [evE] at e
    obtain ⟨⟨x, ρ1⟩, e1, e⟩ := Option.bind_eq_some_iff.mp e
    obtain ⟨i, e2, e⟩ := Option.bind_eq_some_iff.mp e
    cases x <;> cases e2
    refine ⟨ρ, Z, F, _, _, s, e1, fun H' Z' F' s' ps => ?_⟩
    cases i with
    | true =>
      rw [if_pos rfl]
      exact ⟨ρ1, Z', F', d, ρ', s', e, q.pre ps⟩
    | false =>
      rw [if_neg Bool.false_ne_true]
      exact ⟨ρ1, Z', F', d, ρ', s', e, q.pre ps⟩
/-! ### displays -/
def spL (K : PySem.W.Frag) (B : Bk) (f : Env → Option (List D × Env)) (k : Nat) : TA := fun σ H Q => ∃ ρ Z F l ρ', SR K B σ ρ H Z F ∧ f ρ = some (l, ρ') ∧
  ∀ vs H' Z' F' T, SR K B σ ρ' H' Z' F' → Rs H Z F H' Z' F' T → OwL K H' Z' l k vs T → Q vs H'
theorem _root_.L2.PA.imp {X : Cx} {es : List Expr} {t t' : TA} (h : PA X es t) (f : ∀ σ H Q, t' σ H Q → t σ H Q) : PA X es t' := ⟨fun p pins s σ H Q I q => h.run p pins s σ H Q I (f _ _ _ q)⟩
theorem l_nil : PA X [] (spL X.K B (evL C G .nil) k) := pa_nil.imp fun σ H Q ⟨ρ, Z, F, l, ρ', s, e, q⟩ => by
  simp only [evL] at e
  cases e
  exact q [] H Z F (fun _ => False) s (Rs.refl fun _ z => z) ⟨rfl, fun _ z => z⟩
theorem l_cons {es : Exs} {l : List Expr} (ha : PE X a (spE X.K B C G ea k)) (hr : PA X l (spL X.K B (evL C G es) k)) (hs : starEach (a :: l) X.env = (false, eval a X.env) :: starEach l X.env) : PA X (a :: l) (spL X.K B (evL C G (.cons ea es)) k) :=
  (pa_cons ha hr hs).imp fun σ H Q ⟨ρ, Z, F, l, ρ', s, e, q⟩ => by
    simp only [evL] at e
    obtain ⟨⟨x, ρ1⟩, e1, e⟩ := Option.bind_eq_some_iff.mp e
    obtain ⟨⟨xs, ρ2⟩, e2, e⟩ := Option.bind_eq_some_iff.mp e
    cases e
    refine ⟨ρ, Z, F, x, ρ1, s, e1, fun v H1 Z1 F1 T1 s1 r1 o1 => ⟨ρ1, Z1, F1, xs, _, s1, e2, fun vs H2 Z2 F2 T2 s2 r2 o2 => ?_⟩⟩
    refine q (v :: vs) H2 Z2 F2 (fun a => T1 a ∨ T2 a) s2 ⟨r1.ps.trans r2.ps, fun a z => ?_, fun a z => ?_⟩ ?_
    · rcases z with z | z
      · exact r1.tm.ps r2.ps a z
      · exact r2.tm a z
    · rcases z with z | z
      · exact r1.tf a z
      · rcases r2.tf a z with ⟨j, y⟩ | y
        · exact r1.ps.fn j a y
        · exact .inr (none_of_dom r1.ps.dom y)
    · unfold OwL
      refine ⟨v, vs, T1, T2, rfl, r2.ps.ow s1 r1.tm o1, o2, fun a z y => ?_, fun _ => Iff.rfl⟩
      obtain ⟨⟨ws, h1⟩, h2, h3⟩ := r1.tm a z
      rcases r2.tf a y with ⟨j, y⟩ | y
      · exact h3 j y
      · rw [h1] at y; cases y
theorem owL_len {K : PySem.W.Frag} {H : Hp} {Z : AS} : ∀ {l : List D} {k : Nat} {vs : List V} {T : AS}, OwL K H Z l k vs T → l.length = vs.length
  | [], _, _, _, h => by rw [h.1]; rfl
  | d :: ds, _, _, _, h => by
    unfold OwL at h
    obtain ⟨v, ws, T1, T2, rfl, _, h2, _⟩ := h
    simp [owL_len h2]
def lenX : Exs → Nat
  | .nil => 0
  | .cons _ es => lenX es + 1
theorem evL_len : ∀ {es : Exs} {ρ ρ' : Env} {l : List D}, evL C G es ρ = some (l, ρ') → l.length = lenX es
  | .nil, _, _, _, e => by simp only [evL] at e; cases e; rfl
  | .cons ea es, ρ, ρ', l, e => by
    simp only [evL] at e
    obtain ⟨⟨x, ρ1⟩, e1, e⟩ := Option.bind_eq_some_iff.mp e
    obtain ⟨⟨xs, ρ2⟩, e2, e⟩ := Option.bind_eq_some_iff.mp e
    cases e
    simp [lenX, evL_len e2]
theorem s_tup {es : Exs} {l : List Expr} {n : Nat} (h : PA X l (spL X.K B (evL C G es) 0)) (hz : lenX es ≤ 1000) : PE X (.Tuple l n pos) (spE X.K B C G (.tup es) k) :=
  (pe_tup h).imp fun σ H Q ⟨ρ, Z, F, d, ρ', s, e, q⟩ => by
    simp only [evE] at e
    obtain ⟨⟨xs, ρ1⟩, e1, e⟩ := Option.bind_eq_some_iff.mp e
    cases e
    refine ⟨ρ, Z, F, xs, _, s, e1, fun vs H' Z' F' T s' r o => ?_⟩
    have z : vs.length ≤ sizeLine := by
      rw [← owL_len o, evL_len e1]
      exact Nat.le_trans hz (by decide)
    exact ⟨z, fun p n => kn_tup (q.pre r.ps) s' n (owL_zero.1 o).1 z⟩
theorem s_lst {es : Exs} {l : List Expr} {j : Nat} (h : PA X l (spL X.K B (evL C G es) j)) (hz : lenX es ≤ 1000) (hk : k ≤ j + 1) : PE X (.List l pos) (spE X.K B C G (.lst es) k) :=
  (pe_lst h).imp fun σ H Q ⟨ρ, Z, F, d, ρ', s, e, q⟩ => by
    simp only [evE] at e
    obtain ⟨⟨xs, ρ1⟩, e1, e⟩ := Option.bind_eq_some_iff.mp e
    cases e
    refine ⟨ρ, Z, F, xs, _, s, e1, fun vs H' Z' F' T s' r o => ?_⟩
    have z : vs.length ≤ sizeLine := by
      rw [← owL_len o, evL_len e1]
      exact Nat.le_trans hz (by decide)
    refine ⟨z, fun p n => ?_⟩
    obtain ⟨s2, t2, o2⟩ := new_lst s' n o r.tm z
    refine fin_ow s2 (H0 := H) (Z0 := Z) (F0 := F) ⟨r.ps.trans (Ps.new n), t2, fun a h => ?_⟩ o2 hk fun Z' T' s r o => q _ _ _ _ _ s r o
    rcases h with rfl | h
    · exact .inr (none_of_dom r.ps.dom n)
    · exact r.tf a h
/-! ### items, slices -/
theorem s_idx (ha : PE X a (spO X.K B (opX C G ea))) (hb : PE X b (spO X.K B (opX C G eb))) (hs : PlainIx b) : PE X (.Subscript a b pos) (spE X.K B C G (.idx ea eb) 0) :=
  (pe_ix (ix_list.or ix_tup) ha hb hs).imp fun σ H Q ⟨ρ, Z, F, d, ρ', s, e, q⟩ => by
    simp only [evE] at e
    obtain ⟨⟨p, ρ1⟩, e1, e⟩ := Option.bind_eq_some_iff.mp e
    obtain ⟨⟨p', ρ2⟩, e2, e⟩ := Option.bind_eq_some_iff.mp e
    obtain ⟨⟨k1, x⟩, e3, e⟩ := Option.bind_eq_some_iff.mp e
    obtain ⟨⟨k2, y⟩, e4, e⟩ := Option.bind_eq_some_iff.mp e
    dsimp only at e2 e3 e4 e
    split at e
    · rename_i h
      obtain ⟨z, e5, e⟩ := Option.bind_eq_some_iff.mp e
      cases e
      refine spO_two s e1 e2 fun v v' H' Z' F' s' ps o1 o2 => ?_
      obtain ⟨T1, w1⟩ := o1.view s' e3
      obtain ⟨T2, w2⟩ := o2.view s' e4
      unfold idxD at e5
      split at e5
      · split at e5
        · obtain ⟨j, h1, h2⟩ := Option.bind_eq_some_iff.mp e5
          obtain ⟨p, vs, rfl, hp, fp⟩ := seq_of_ow w1 h
          obtain ⟨u, h3, f⟩ := fp.get h2
          refine .inl ⟨p, vs, _, u, rfl, ow_int w2, .inl (.inl hp), ?_, kn_fz (q.pre ps) s' f⟩
          unfold atI
          rw [← fp.length, show ixN _ _ = _ from h1]
          exact h3
        · obtain ⟨j, h1, h2⟩ := Option.bind_eq_some_iff.mp e5
          obtain ⟨p, vs, rfl, hp, fp⟩ := tup_of_ow w1
          obtain ⟨u, h3, f⟩ := fp.get h2
          refine .inr ⟨p, vs, _, u, rfl, ow_int w2, hp, ?_, kn_fz (q.pre ps) s' f⟩
          unfold atI
          rw [← fp.length, show ixN _ _ = _ from h1]
          exact h3
        · cases e5
      · cases e5
    · cases e
end
end
end BW

/-! BwE5: defs and their calls. -/
namespace BW
noncomputable section
open PySem PySem.Spec PyProof.Rows L2
/-- room for calls, nothing being written out -/
structure GRoom (k : Nat) (A : Around) : Prop where
  room : Room k A
  gd : A.guards = some []
theorem GRoom.mono {j k : Nat} {A : Around} (r : GRoom k A) (h : j ≤ k) : GRoom j A := ⟨r.room.mono h, r.gd⟩
theorem GRoom.deeper {k : Nat} {A : Around} (r : GRoom (k + 1) A) (env : PySem.Env) : GRoom k (A.deeper env) := ⟨r.room.deeper env, r.gd⟩
abbrev Sp0 := List V → Hp → VK → Prop
/-- a call's end: no exception -/
def CR0 (outer : List PySem.Env) (P : Program) (w : World) (H : Hp) (s : Shared) (Q : VK) : Result → Shared → Prop
  | .ok (.ret u), s' => CE outer P w H s Q u s'
  | _, _ => False
/-- what a def promises (where nothing is being written out) -/
structure GFn (P : Program) (w : World) (K : PySem.W.Frag) (mg : Str → Option Value) (base : Heap) (k : Nat) (f : Addr) (fd : FuncData) (ps : List Str) (sp : Sp0) : Prop where
  len : ∀ vs H Q, sp vs H Q → vs.length = ps.length
  run : ∀ (A : Around) (outer : List PySem.Env) (s : Shared) (H : Hp) (args : Args) (us : List Value) (vs : List V) (Q : VK), GRoom k A → Env0 P w K mg base A outer s H →
    BindsTo s fd args (ps.zip us) → Vals vs us → sp vs H Q → codeAny (model P w) A (.call (.ref f) args) (CR0 outer P w H s Q) s
section
variable {X : Cx} {k : Nat} {f : Addr} {fd : FuncData} {ps : List Str} {sp : Sp0}
theorem call_run {pins : List (Addr × Obj)} {σ : L2.St} {H : Hp} {s : Shared} {Q : VK} {us : List Value} {vs : List V} (g : GFn X.prog X.w X.K X.mg X.base k f fd ps sp) (room : GRoom k X.A) (bi : Binds X.K fd ps []) (inv : Inv X pins σ H s) (rel : Vals vs us) (h : sp vs H Q) :
    wpAny (model X.prog X.w) X.A (call (.ref f) us) (EP X pins σ Q) X.xe s := by
  have n1 : us.length = ps.length := rel.length.symm.trans (g.len _ _ _ h)
  have b1 : BindsTo s fd ⟨us, []⟩ (ps.zip us) := by
    have b0 := bi s us inv.kIn (by rw [List.append_nil]; exact n1)
    rwa [List.append_nil] at b0
  refine wpAny_call (codeAny_mono (g.run X.A X.stack s H ⟨us, []⟩ us vs Q room inv.env0 b1 rel h) ?_)
  intro r s' hr
  match r, hr with
  | .ok (.ret u), hr => exact inv.after hr
/-- f(e, ..) -/
theorem g_call {x : Str} {p pos : Pos} {e : Expr} {es : List Expr} {t : TA} (g : GFn X.prog X.w X.K X.mg X.base k f fd ps sp) (room : GRoom k X.A) (gl : Gl X x) (hm : X.mg x = some (.ref f)) (kp : PySem.W.keepIn X.K (.ref f) = true) (bi : Binds X.K fd ps [])
    (ha : PA X (e :: es) t) (nd : (x == ("__debug__" : Str)) = false) (st : starEach (e :: es) X.env = (false, eval e X.env) :: starEach es X.env) (pl : (backTo pos (starEach es X.env)).any (·.1) = false) :
    PE X (.Call (.Name x p) (e :: es) [] pos) (fun σ H Q => t σ H fun vs H1 => sp vs H1 Q) := by
  constructor
  intro pins s σ H Q inv q
  refine wpAny_Call_Name_kw (ld_glob inv gl hm (PySem.W.callWith_K (h₀ := X.base) inv.ok.mod.kin kp ?_ st pl) nd)
  refine thn (ha.run pos pins s σ H _ inv q) ?_
  rintro us s1 ⟨vs, H1, inv1, rel, q1⟩
  exact ⟨inv1.kIn, call_run g room bi inv1 rel q1⟩
theorem g_call0 {x : Str} {p pos : Pos} (g : GFn X.prog X.w X.K X.mg X.base k f fd ps sp) (room : GRoom k X.A) (gl : Gl X x) (hm : X.mg x = some (.ref f)) (kp : PySem.W.keepIn X.K (.ref f) = true) (bi : Binds X.K fd ps [])
    (nd : (x == ("__debug__" : Str)) = false) : PE X (.Call (.Name x p) [] [] pos) (fun σ H Q => sp [] H Q) := by
  constructor
  intro pins s σ H Q inv q
  exact wpAny_Call_Name_kw (ld_glob inv gl hm (PySem.W.callWith_K0 inv.kIn kp (call_run (us := []) g room bi inv .nil q)) nd)
end
/-- a def by its body -/
theorem gfn_of {P : Program} {w : World} {K : PySem.W.Frag} {mg : Str → Option Value} {base : Heap} {k : Nat} {f : Addr} {x qual : Str} {st : Stmt} {fd : FuncData} {N ps : List Str} {sp : Sp0} (fu : Fun K x qual st f fd) (sc : FnScope N ps (defScope st))
    (len : ∀ vs H Q, sp vs H Q → vs.length = ps.length)
    (body : ∀ (cdv : Value) (A : Around) (outer : List PySem.Env) (s : Shared) (H : Hp) (vs : List V) (Q : VK), GRoom k (A.deeper (envOfC qual (defScope st) s.heap.objs.size f cdv)) → sp vs H Q →
      ∃ t, PSs (cxOf CX0 P w K mg base N qual (defScope st) f cdv A outer s H E0).nox (defBody st) t ∧ t { nx := fun _ H' => Q .non H', rt := Q } (start N vs) H) : GFn P w K mg base (k + 1) f fd ps sp := by
  obtain ⟨oc, od, kV, doc, pm, an, cdv, ct, osl, rfl, lk, hc⟩ := fu.ex
  constructor
  · exact len
  · intro A outer s H args us vs Q room e0 bi rel hsp
    have kin : K.In s.heap := e0.mod.kin.keeps fun b o e => (e0.bs b o e).1
    have lim : s.heap.NoLimit := e0.mod.nolimit.keeps fun b o e => (e0.bs b o e).1
    have kinds : ∀ y ∈ ps.zip us, (defScope st).names.lookup y.1 = some .local ∨ ((defScope st).names.lookup y.1 = some .cell ∧ ((cellsFrom (s.heap.objs.size + 1) (defScope st).names []).lookup y.1).isSome = true) := by
      intro y hy
      rcases sc.par y.1 (List.of_mem_zip (a := y.1) (b := y.2) hy).1 with h | h
      · exact .inl h
      · exact .inr ⟨h, PySem.W.cellsFrom_some _ _ _ (.inl h)⟩
    refine codeAny_call_function room.room.depth (kin _ _ lk) rfl sc.co sc.gen rfl (PySem.W.codeRec_of kin hc) (bi _ _ _ _ (wpAny_newFunctionEnv_cells sc.kind kinds ?_))
    intro env he s1 inc
    subst he
    refine ⟨lim.keeps inc.toInCall.keep, codeAny_func ?_⟩
    obtain ⟨t, ht, q⟩ := body cdv A outer s H vs Q (room.deeper _) hsp
    have inv := inv_start (CX := CX0) (P := P) (mg := mg) (base := base) (E := E0) (qual := qual) (f := f) (cd := cdv) sc room.room.hd e0 (len _ _ _ hsp) rel inc
    refine wpAny_mono (ht.nox.run [] s1 (start N vs) H _ inv q) (fun fl s' hs => ?_) (fun e s' hs => ?_)
    · match fl, hs with
      | .ret u, ⟨v, σ', H', J, rv, qq⟩ => exact ⟨v, H', J.os, J.bare, J.base, J.hok, rv, qq⟩
      | .next, ⟨σ', H', J, qq⟩ => exact ⟨V.non, H', J.os, J.bare, J.base, J.hok, rfl, qq⟩
      | .brk, ⟨_, _, _, qq⟩ => exact qq.elim
      | .cont, ⟨_, _, _, qq⟩ => exact qq.elim
    · exact wpAny_mono hs (fun _ _ z => z.elim) fun _ _ z => z.elim
end
end BW

/-! BwE6: calls of the text's own defs. -/
namespace BW
noncomputable section
open PySem PySem.Spec PyProof.Rows L2
def bOf (vs : List V) : Bk := fun i => (vs.map some)[i]?
/-- a def's promise by the evaluation -/
def spFn (K : PySem.W.Frag) (T : Tab) (G : Nat → D) (n f : Nat) : Sp0 := fun vs H Q => ∃ rs Z F d outs, SR K (bOf vs) (vs.map some) rs H Z F ∧ callN T G n f rs = some (d, outs) ∧
  ∀ v H' Z' F' S, SR K (bOf vs) (vs.map some) outs H' Z' F' → Rs H Z F H' Z' F' S → Ow K H' Z' d (ownT T f) v S → Q v H'
/-- an argument's value -/
def ArV1 (K : PySem.W.Frag) (σ : L2.St) (H : Hp) (Z : AS) : Ar → V → Prop
  | .now d, v => Fz K H Z d v
  | .io i, v => σ[i]? = some (some v)
  | .scr i, v => σ[i]? = some (some v)
  | .exc i, v => σ[i]? = some (some v)
def ArV (K : PySem.W.Frag) (σ : L2.St) (H : Hp) (Z : AS) : List Ar → List V → Prop
  | [], vs => vs = []
  | a :: as, vs => ∃ v ws, vs = v :: ws ∧ ArV1 K σ H Z a v ∧ ArV K σ H Z as ws
def spA (K : PySem.W.Frag) (B : Bk) (f : Env → Option (List Ar × Env)) : TA := fun σ H Q => ∃ ρ Z F l ρ', SR K B σ ρ H Z F ∧ f ρ = some (l, ρ') ∧
  ∀ vs H' Z' F', SR K B σ ρ' H' Z' F' → Ps H Z F H' Z' F' → ArV K σ H' Z' l vs → Q vs H'
section
variable {K : PySem.W.Frag} {H H0 H1 H2 : Hp} {Z Z0 Z1 Z2 : AS} {F F0 F1 F2 : FS} {B : Bk} {σ : L2.St} {ρ ρ0 ρ1 : Env}
theorem ArV1.ps {a : Ar} {v : V} (h : ArV1 K σ H Z a v) (s : SR K B σ ρ H Z F) (p : Ps H Z F H1 Z1 F1) : ArV1 K σ H1 Z1 a v := by
  cases a with
  | now d => exact p.fz s h
  | io i => exact h
  | scr i => exact h
  | exc i => exact h
def arR1 (ρ : Env) : Ar → Option R
  | .now d => some (.val d)
  | .io i => ioR ρ i
  | .scr i => (scrOf ρ i).map .scr
  | .exc i => (excOf ρ i).map .exc
theorem arR_cons {a : Ar} {as : List Ar} {rs : List R} (h : arR ρ (a :: as) = some rs) : ∃ r rs', rs = r :: rs' ∧ arR1 ρ a = some r ∧ arR ρ as = some rs' := by
  cases a with
  | now d =>
    obtain ⟨x, h1, h2⟩ := Option.map_eq_some_iff.mp h
    exact ⟨_, x, h2.symm, rfl, h1⟩
  | io i =>
    obtain ⟨y, h0, h⟩ := Option.bind_eq_some_iff.mp h
    obtain ⟨x, h1, h2⟩ := Option.map_eq_some_iff.mp h
    exact ⟨_, x, h2.symm, h0, h1⟩
  | scr i =>
    obtain ⟨y, h0, h⟩ := Option.bind_eq_some_iff.mp h
    obtain ⟨x, h1, h2⟩ := Option.map_eq_some_iff.mp h
    exact ⟨_, x, h2.symm, by show Option.map R.scr (scrOf ρ i) = _; rw [h0]; rfl, h1⟩
  | exc i =>
    obtain ⟨y, h0, h⟩ := Option.bind_eq_some_iff.mp h
    obtain ⟨x, h1, h2⟩ := Option.map_eq_some_iff.mp h
    exact ⟨_, x, h2.symm, by show Option.map R.exc (excOf ρ i) = _; rw [h0]; rfl, h1⟩
/-- what the arguments bring along -/
def ioF (F : FS) (as : List Ar) : FS := fun j => match as[j]? with
  | some (.io i) => F i
  | _ => fun _ => False
theorem args_at : ∀ {as : List Ar} {vs : List V} {rs : List R}, arR ρ as = some rs → ArV K σ H Z as vs → rs.length = vs.length ∧ ∀ j : Nat, (∃ a v r, as[j]? = some a ∧ vs[j]? = some v ∧ rs[j]? = some r ∧ arR1 ρ a = some r ∧ ArV1 K σ H Z a v) ∨ (as[j]? = none ∧ vs[j]? = none ∧ rs[j]? = none)
  | [], _, _, h, hv => by
    cases h
    cases hv
    exact ⟨rfl, fun j => .inr ⟨rfl, rfl, rfl⟩⟩
  | a :: as, vs, rs, h, hv => by
    obtain ⟨r, rs', rfl, h1, h2⟩ := arR_cons h
    unfold ArV at hv
    obtain ⟨v, ws, rfl, h3, h4⟩ := hv
    obtain ⟨e, ih⟩ := args_at h2 h4
    refine ⟨by simp [e], fun j => ?_⟩
    cases j with
    | zero => exact .inl ⟨a, v, r, rfl, rfl, rfl, h1, h3⟩
    | succ j => simpa using ih j
theorem io_ix : ∀ {as : List Ar} {i j : Nat}, ioOk as = true → as[j]? = some (.io i) → (∀ j', as[j']? = some (.io i) → j' = j) ∧ ioIn i as = true
  | [], _, _, _, h => by simp at h
  | a :: as, i, j, ok, h => by
    have inn : ∀ {as : List Ar} {j : Nat}, as[j]? = some (.io i) → ioIn i as = true := by
      intro as
      induction as with
      | nil => intro j h; simp at h
      | cons b bs ih =>
        intro j h
        cases j with
        | zero =>
          simp at h
          subst h
          simp [ioIn]
        | succ j =>
          have h' := ih (j := j) (by simpa using h)
          cases b <;> simp [ioIn, h']
    refine ⟨fun j' h' => ?_, inn h⟩
    have tail : ioOk as = true := by
      cases a with
      | io i' => simp only [ioOk, Bool.and_eq_true] at ok; exact ok.2
      | now d => exact ok
      | scr d => exact ok
      | exc d => exact ok
    cases j with
    | zero =>
      cases j' with
      | zero => rfl
      | succ j' =>
        simp at h
        subst h
        simp only [ioOk, Bool.and_eq_true] at ok
        have := inn (as := as) (j := j') (by simpa using h')
        rw [this] at ok
        exact absurd ok.1 (by simp)
    | succ j =>
      cases j' with
      | zero =>
        simp at h'
        subst h'
        simp only [ioOk, Bool.and_eq_true] at ok
        have := inn (as := as) (j := j) (by simpa using h)
        rw [this] at ok
        exact absurd ok.1 (by simp)
      | succ j' => rw [(io_ix tail (by simpa using h)).1 j' (by simpa using h')]
/-- the callee's state at its entry -/
theorem args_sr {as : List Ar} {vs : List V} {rs : List R} (s : SR K B σ ρ H Z F) (h : arR ρ as = some rs) (hv : ArV K σ H Z as vs) (ok : ioOk as = true) : SR K (bOf vs) (vs.map some) rs H Z (ioF F as) := by
  obtain ⟨hl, at_⟩ := args_at h hv
  have ioi : ∀ {j a}, ioF F as j a → ∃ i, as[j]? = some (.io i) ∧ F i a := by
    intro j a z
    unfold ioF at z
    cases e : as[j]? with
    | none => rw [e] at z; exact z.elim
    | some x =>
      rw [e] at z
      cases x with
      | io i => exact ⟨i, rfl, z⟩
      | now d => exact z.elim
      | scr i => exact z.elim
      | exc i => exact z.elim
  refine ⟨by rw [List.length_map]; exact hl, fun j => ?_, fun j j' a z z' => ?_, fun j a z => ?_, fun j a z => ?_, s.zt, s.gd⟩
  · rcases at_ j with ⟨a, v, r, e1, e2, e3, e4, e5⟩ | ⟨e1, e2, e3⟩
    · have es : slot rs j = r := by
        unfold slot
        rw [List.getD_eq_getElem?_getD, e3]
        rfl
      have ev : (vs.map some)[j]? = some (some v) := by rw [List.getElem?_map, e2]; rfl
      rw [es, ev]
      unfold bOf
      rw [ev]
      cases a with
      | now d =>
        cases e4
        exact ⟨v, rfl, e5, fun a z => by obtain ⟨i, e, _⟩ := ioi z; rw [e1] at e; cases e⟩
      | io i =>
        have hF : ioF F as j = F i := by unfold ioF; rw [e1]
        have e5' : σ[i]? = some (some v) := e5
        have q := s.sl i
        have e4 : ioR ρ i = some r := e4
        unfold ioR at e4
        cases hs : slot ρ i with
        | own k d =>
          rw [hs] at e4 q
          cases e4
          obtain ⟨v', e6, o⟩ := q
          rw [e5'] at e6
          cases e6
          rw [hF]
          exact ⟨rfl, v, rfl, o⟩
        | io k d =>
          rw [hs] at e4 q
          cases e4
          obtain ⟨_, v', e6, o⟩ := q
          rw [e5'] at e6
          cases e6
          rw [hF]
          exact ⟨rfl, v, rfl, o⟩
        | un => rw [hs] at e4; cases e4
        | val d => rw [hs] at e4; cases e4
        | scr d => rw [hs] at e4; cases e4
        | exc d => rw [hs] at e4; cases e4
      | scr i =>
        have e5' : σ[i]? = some (some v) := e5
        have q := s.sl i
        have e4 : (scrOf ρ i).map R.scr = some r := e4
        unfold scrOf at e4
        cases hs : slot ρ i with
        | scr l =>
          rw [hs] at e4 q
          cases e4
          obtain ⟨⟨a, e6, e7⟩, t⟩ := q
          rw [e5'] at e6
          cases e6
          exact ⟨⟨a, rfl, e7⟩, fun a z => by obtain ⟨i, e, _⟩ := ioi z; rw [e1] at e; cases e⟩
        | un => rw [hs] at e4; cases e4
        | exc d => rw [hs] at e4; cases e4
        | val d => rw [hs] at e4; cases e4
        | own k d => rw [hs] at e4; cases e4
        | io k d => rw [hs] at e4; cases e4
      | exc i =>
        have e5' : σ[i]? = some (some v) := e5
        have q := s.sl i
        have e4 : (excOf ρ i).map R.exc = some r := e4
        unfold excOf at e4
        cases hs : slot ρ i with
        | exc l =>
          rw [hs] at e4 q
          cases e4
          obtain ⟨⟨a, e6, e7⟩, t⟩ := q
          rw [e5'] at e6
          cases e6
          exact ⟨⟨a, rfl, e7⟩, fun a z => by obtain ⟨i, e, _⟩ := ioi z; rw [e1] at e; cases e⟩
        | un => rw [hs] at e4; cases e4
        | scr d => rw [hs] at e4; cases e4
        | val d => rw [hs] at e4; cases e4
        | own k d => rw [hs] at e4; cases e4
        | io k d => rw [hs] at e4; cases e4
    · have es : slot rs j = .un := by
        unfold slot
        rw [List.getD_eq_getElem?_getD, e3]
        rfl
      rw [es]
      intro a z
      obtain ⟨i, e, _⟩ := ioi z
      rw [e1] at e
      cases e
  · obtain ⟨i, e, f⟩ := ioi z
    obtain ⟨i', e', f'⟩ := ioi z'
    have := s.dj i i' a f f'
    subst this
    exact ((io_ix ok e).1 j' e').symm
  · obtain ⟨i, e, f⟩ := ioi z
    exact s.nz i a f
  · obtain ⟨i, e, f⟩ := ioi z
    exact s.mu i a f
/-- names handed on: dropped -/
theorem dropI_sr : ∀ (as : List Ar) {ρ : Env} {F : FS}, SR K B σ ρ H Z F → SR K B σ (dropI as ρ) H Z (fun i => if ioIn i as = true then fun _ => False else F i)
  | [], ρ, F, s => s
  | .now d :: r, ρ, F, s => dropI_sr r s
  | .scr d :: r, ρ, F, s => dropI_sr r s
  | .exc d :: r, ρ, F, s => dropI_sr r s
  | .io i :: r, ρ, F, s => by
    have h := dropI_sr r (s.drop i)
    have e : (fun j => if ioIn j r = true then fun _ => False else (if j = i then fun _ => False else F j)) = (fun j => if ioIn j (.io i :: r) = true then (fun _ => False : AS) else F j) := by
      funext j
      simp only [ioIn, Bool.or_eq_true, beq_iff_eq]
      by_cases e1 : j = i
      · simp [e1]
      · simp [e1]
    rw [← e]
    exact h
/-- a slot's lists are back -/
theorem SR.setR {v : V} {d : D} {k : Nat} {T : AS} {r : R} {i : Nat} (s : SR K B σ ρ H Z F) (ev : σ[i]? = some (some v)) (o : Ow K H Z d k v T) (t : Tm H Z F T) (hr : r = .own k d ∨ (r = .io k d ∧ B i = σ[i]?)) : SR K B σ (ρ.set i r) H Z (fun j => if j = i then T else F j) where
  len := by rw [List.length_set]; exact s.len
  sl := fun j => by
    rw [slot_set]
    by_cases e : i = j
    · subst e
      have hi : i < ρ.length := by
        rw [s.len]
        exact (List.getElem?_eq_some_iff.mp ev).1
      simp only [if_true, if_pos hi]
      rcases hr with rfl | ⟨rfl, hb⟩
      · exact ⟨v, ev, o⟩
      · exact ⟨hb, v, ev, o⟩
    · rw [if_neg e, if_neg (Ne.symm e)]
      exact s.sl j
  dj := fun j k a h1 h2 => by
    try dsimp only at h1 h2
    by_cases e : j = i
    · by_cases e' : k = i
      · rw [e, e']
      · rw [if_pos e] at h1; rw [if_neg e'] at h2
        exact absurd h2 ((t a h1).2.2 k)
    · by_cases e' : k = i
      · rw [if_pos e'] at h2; rw [if_neg e] at h1
        exact absurd h1 ((t a h2).2.2 j)
      · rw [if_neg e] at h1; rw [if_neg e'] at h2
        exact s.dj j k a h1 h2
  nz := fun j a h => by
    try dsimp only at h
    by_cases e : j = i
    · rw [if_pos e] at h; exact (t a h).2.1
    · rw [if_neg e] at h; exact s.nz j a h
  mu := fun j a h => by
    try dsimp only at h
    by_cases e : j = i
    · rw [if_pos e] at h; exact (t a h).1
    · rw [if_neg e] at h; exact s.mu j a h
  zt := s.zt
  gd := s.gd
theorem SR.tail {b : Bk} {x : Option V} {xs : L2.St} {r : R} {rs : List R} (s : SR K b (x :: xs) (r :: rs) H Z F) : SR K (fun i => b (i + 1)) xs rs H Z (fun i => F (i + 1)) :=
  ⟨by simpa using s.len, fun i => by simpa [slot] using s.sl (i + 1), fun i j a h1 h2 => Nat.succ.inj (s.dj (i + 1) (j + 1) a h1 h2), fun i => s.nz (i + 1), fun i => s.mu (i + 1), s.zt, s.gd⟩
theorem backR_un {x r : R} (h : ∀ k d, r ≠ .io k d) : backR x r = .un := by cases x <;> cases r <;> first | rfl | exact absurd rfl (h _ _)
/-- .. handed back -/
theorem back_sr (s0 : SR K B σ ρ0 H0 Z0 F0) : ∀ (as : List Ar) (vs : List V) (outs : List R) {ρ : Env} {F F2 : FS} {b : Bk}, SR K b (vs.map some) outs H Z F2 → ArV K σ H1 Z1 as vs → SR K B σ ρ H Z F → (∀ i j a, F i a → ¬ F2 j a) →
    ∃ F', SR K B σ (putBack ρ0 as outs ρ) H Z F' ∧ ∀ i a, F' i a → F i a ∨ ∃ j, F2 j a
  | [], _, outs, ρ, F, F2, b, _, _, s, _ => ⟨F, by cases outs <;> exact s, fun i a z => .inl z⟩
  | a :: as, vs, [], ρ, F, F2, b, _, _, s, _ => ⟨F, by cases a <;> exact s, fun i a z => .inl z⟩
  | a :: as, vs, r :: outs, ρ, F, F2, b, so, hv, s, dj => by
    unfold ArV at hv
    obtain ⟨v, ws, rfl, h3, h4⟩ := hv
    have so' : SR K b (some v :: ws.map some) (r :: outs) H Z F2 := so
    have plain : putBack ρ0 (a :: as) (r :: outs) ρ = putBack ρ0 as outs ρ → ∃ F', SR K B σ (putBack ρ0 (a :: as) (r :: outs) ρ) H Z F' ∧ ∀ i a, F' i a → F i a ∨ ∃ j, F2 j a := fun e => by
      rw [e]
      obtain ⟨F', s', f'⟩ := back_sr s0 as ws outs so'.tail h4 s fun i j a z y => dj i (j + 1) a z y
      exact ⟨F', s', fun i a z => (f' i a z).elim .inl fun ⟨j, y⟩ => .inr ⟨j + 1, y⟩⟩
    cases a with
    | now d => exact plain rfl
    | scr d => exact plain rfl
    | exc d => exact plain rfl
    | io i =>
      have ev : σ[i]? = some (some v) := h3
      show ∃ F', SR K B σ (putBack ρ0 as outs (ρ.set i (backR (slot ρ0 i) r))) H Z F' ∧ _
      have un : backR (slot ρ0 i) r = .un → ∃ F', SR K B σ (putBack ρ0 as outs (ρ.set i (backR (slot ρ0 i) r))) H Z F' ∧ ∀ i a, F' i a → F i a ∨ ∃ j, F2 j a := fun e => by
        rw [e]
        obtain ⟨F', s', f'⟩ := back_sr s0 as ws outs so'.tail h4 (s.drop i) fun i' j a z y => by
          try dsimp only at z
          by_cases e : i' = i
          · rw [if_pos e] at z; exact z
          · rw [if_neg e] at z; exact dj i' (j + 1) a z y
        refine ⟨F', s', fun i' a z => ?_⟩
        rcases f' i' a z with z | ⟨j, y⟩
        · try dsimp only at z
          by_cases e : i' = i
          · rw [if_pos e] at z; exact z.elim
          · rw [if_neg e] at z; exact .inl z
        · exact .inr ⟨j + 1, y⟩
      cases r with
      | un => exact un (backR_un fun _ _ z => by cases z)
      | val d => exact un (backR_un fun _ _ z => by cases z)
      | own k d => exact un (backR_un fun _ _ z => by cases z)
      | scr d => exact un (backR_un fun _ _ z => by cases z)
      | exc d => exact un (backR_un fun _ _ z => by cases z)
      | io k d =>
        have q := so'.sl 0
        obtain ⟨_, v', e6, o⟩ := q
        cases e6
        have tm : Tm H Z F (F2 0) := fun a z => ⟨so'.mu 0 a z, so'.nz 0 a z, fun i y => dj i 0 a y z⟩
        have ok : ∀ {x : R}, (x = .own k d ∨ (x = .io k d ∧ B i = σ[i]?)) → ∃ F', SR K B σ (putBack ρ0 as outs (ρ.set i x)) H Z F' ∧ ∀ i a, F' i a → F i a ∨ ∃ j, F2 j a := fun {x} hx => by
          obtain ⟨F', s', f'⟩ := back_sr s0 as ws outs so'.tail h4 (s.setR ev o tm hx) fun i' j a z y => by
            try dsimp only at z
            by_cases e : i' = i
            · rw [if_pos e] at z; exact absurd (so'.dj 0 (j + 1) a z y) (by omega)
            · rw [if_neg e] at z; exact dj i' (j + 1) a z y
          refine ⟨F', s', fun i' a z => ?_⟩
          rcases f' i' a z with z | ⟨j, y⟩
          · try dsimp only at z
            by_cases e : i' = i
            · rw [if_pos e] at z; exact .inr ⟨0, z⟩
            · rw [if_neg e] at z; exact .inl z
          · exact .inr ⟨j + 1, y⟩
        have three : backR (slot ρ0 i) (.io k d) = .un ∨ backR (slot ρ0 i) (.io k d) = .own k d ∨ (backR (slot ρ0 i) (.io k d) = .io k d ∧ B i = σ[i]?) := by
          have q0 := s0.sl i
          cases hs : slot ρ0 i with
          | un => exact .inl rfl
          | val d => exact .inl rfl
          | scr d => exact .inl rfl
          | exc d => exact .inl rfl
          | own k' d' => exact .inr (.inl rfl)
          | io k' d' =>
            rw [hs] at q0
            exact .inr (.inr ⟨rfl, q0.1⟩)
        rcases three with e | e | e
        · exact un e
        · rw [e]; exact ok (.inl rfl)
        · rw [e.1]; exact ok (.inr ⟨rfl, e.2⟩)
end
end
end BW

/-! BwE7: calls; slices, items of the script, pops. -/
namespace BW
noncomputable section
open PySem PySem.Spec PyProof.Rows L2
/-! ### x[::-1] of a list, or of a tuple -/
section
variable {prog : Program} {w : World} {A : Around} {E : Value → Shared → Prop} {s : Shared}
theorem applied_back {sl : Addr} {vs : Value} {n : Nat} {Q : Int × Int × Nat → Shared → Prop} (hs : s.heap.IsSliceOf sl .none .none vs) (ps : IsPart vs (some (-1)))
    (h : Q ((n : Int) - 1, -1, n) s) : wpAny (model prog w) A (Builtin.Slice.sliceApplied (.ref sl) (pure (n : Int))) Q E s := by
  obtain ⟨o, ho, hc, hd⟩ := id hs
  have adj : Builtin.Slice.sliceAdjust none none (-1) (n : Int) = ((n : Int) - 1, -1) := rfl
  have plc : Builtin.Slice.slicePlaces ((n : Int) - 1) (-1) (-1) = n := by
    unfold Builtin.Slice.slicePlaces
    rw [if_neg (by omega)]
    split
    · rw [show (-(-1 : Int)) = 1 from rfl, Int.ediv_one]; omega
    · omega
  unfold Builtin.Slice.sliceApplied Builtin.Slice.sliceFields
  have fld : ∀ (i : Nat) (x : Value) {Q1 : Value → Shared → Prop}, #[Value.none, Value.none, vs][i]? = some x → Q1 x s → wpAny (model prog w) A (field (.ref sl) i) Q1 E s := fun i x Q1 e q => wpAny_field ho hd e q
  refine wpAny_bind (wpAny_bind (fld 0 .none rfl (wpAny_bind (fld 1 .none rfl (wpAny_bind (fld 2 vs rfl (wpAny_pure ?_)))))))
  refine wpAny_bind (HT.slicePart_ ps ?_)
  show wpAny _ _ (if ((-1 : Int) == 0) = true then _ else _) _ _ s
  rw [if_neg (show ¬ (((-1 : Int) == 0) = true) by decide)]
  refine wpAny_bind (HT.slicePart_ .none (wpAny_bind (HT.slicePart_ .none (wpAny_bind (wpAny_pure ?_)))))
  show wpAny _ _ (match Builtin.Slice.sliceAdjust none none (-1) (n : Int) with | (lo, hi) => pure (lo, (-1 : Int), Builtin.Slice.slicePlaces lo hi (-1))) _ _ s
  rw [adj]
  show wpAny _ _ (pure ((n : Int) - 1, (-1 : Int), Builtin.Slice.slicePlaces ((n : Int) - 1) (-1) (-1))) _ _ s
  rw [plc]
  exact wpAny_pure h
theorem fm_some {α β : Type} {f : α → Option β} {g : α → β} : ∀ {l : List α}, (∀ m ∈ l, f m = some (g m)) → l.filterMap f = l.map g
  | [], _ => rfl
  | a :: l, h => by
    rw [List.filterMap_cons, h a (List.mem_cons_self ..), List.map_cons, fm_some fun m hm => h m (List.mem_cons_of_mem _ hm)]
theorem pick_back (xs : List Value) : (List.range xs.length).filterMap (fun (m : Nat) => xs.toArray[(((xs.length : Nat) : Int) - 1 + (m : Int) * (-1)).toNat]?) = xs.reverse := by
  rw [fm_some (g := fun m => (xs.reverse[m]?).getD .none) fun m hm => ?_]
  · refine List.ext_getElem? fun m => ?_
    rw [List.getElem?_map]
    by_cases h : m < xs.length
    · have e := List.getElem?_eq_getElem (show m < xs.reverse.length by simpa using h)
      rw [List.getElem?_range h, e]
      show some ((xs.reverse[m]?).getD .none) = _
      rw [e]
      rfl
    · rw [List.getElem?_eq_none (by simpa using h), List.getElem?_eq_none (by simpa using h)]
      rfl
  · have hm2 := List.mem_range.mp hm
    rw [show (((xs.length : Nat) : Int) - 1 + (m : Int) * (-1)).toNat = xs.length - 1 - m by omega]
    rw [List.getElem?_toArray, List.getElem?_reverse hm2, List.getElem?_eq_getElem (show xs.length - 1 - m < xs.length by omega)]
    rfl
theorem item_back {t sl : Addr} {xs : List Value} {vs : Value} {Q : Value → Shared → Prop} (ht : IsTup s.heap t xs.toArray) (hs : s.heap.IsSliceOf sl .none .none vs) (ps : IsPart vs (some (-1)))
    (h : Q (.ref s.heap.objs.size) { s with heap := s.heap.push { cls := .type "tuple", data := .seq xs.reverse.toArray } })
    (hz : xs.length ≤ sizeLine) : wpAny (model prog w) A (getItem (.ref t) (.ref sl)) Q E s := by
  have big : PySem.sizeOk (.seq xs.reverse.toArray) := by
    show xs.reverse.toArray.size ≤ sizeLine
    rw [List.size_toArray, List.length_reverse]; exact hz
  obtain ⟨o, ho, hc, hd⟩ := id hs
  have ty : s.TypeIs (.ref sl) "slice" := ⟨o, ho, hc⟩
  have sg := PyProof.Rows.slot_tuple_getitem
  unfold getItem
  try with_reducible refine wpAny_holding ?_
  first | refine wpAny_bind (wpAny_pure ?_) | skip
  refine wpAny_bind (wpAny_sequenceKey ht.typeIs (by decide) (wpAny_bind (wpAny_callSpecial?_slot (name := Str.ofString "__getitem__") ht.typeIs sg ?_)))
  refine wpAny_call_entry sg ht.typeIs entry_tuple_getitem ?_ (args_tuple_getitem _ _)
  show wpAny _ _ (Builtin.Tuple.tupleItemsOf (.ref t) >>= _) _ _ s
  refine wpAny_bind (tupleItemsOf_ ht (wpAny_bind (wpAny_typeOf ty ?_)))
  rw [if_pos (by decide)]
  refine wpAny_bind (applied_back (n := xs.toArray.size) hs ps ?_)
  have no : ¬ ((((xs.toArray.size : Nat) : Int) - 1 == 0 && (-1 : Int) == 1 && xs.toArray.size == xs.toArray.size) = true) := by
    rw [show ((-1 : Int) == 1) = false from rfl, Bool.and_false, Bool.false_and]
    exact Bool.false_ne_true
  show wpAny _ _ (if (((xs.toArray.size : Nat) : Int) - 1 == 0 && (-1 : Int) == 1 && xs.toArray.size == xs.toArray.size) = true then _ else _) _ _ s
  rw [if_neg no, List.size_toArray, pick_back]
  first
    | exact wpAny_bind (m := Builtin.Tuple.tupleExact _) (wpAny_newObj_type (wpAny_pure ⟨_, rfl, wpAny_pure h⟩) big)
    | exact wpAny_bind (m := Builtin.Tuple.tupleExact _) (wpAny_newObj_type (wpAny_bind (wpAny_pure (wpAny_pure ⟨_, rfl, wpAny_pure h⟩))) big)
    | exact wpAny_bind (wpAny_bind (m := Builtin.Tuple.tupleExact _) (wpAny_newObj_type (wpAny_pure (wpAny_pure ⟨_, rfl, wpAny_pure h⟩)) big))
    | exact wpAny_bind (wpAny_bind (m := Builtin.Tuple.tupleExact _) (wpAny_newObj_type (wpAny_pure ⟨_, rfl, wpAny_pure h⟩) big))
end
section
variable {X : Cx}
/-- x[::-1] of a list, or of a tuple -/
def tBack (K : PySem.W.Frag) (te : TE) : TE := fun σ H Q => te σ H fun x H1 => ∃ a xs, x = .ref a ∧ ((SqL K H1 a xs ∧ ∀ p, H1 p = none → Q (.ref p) (upd H1 p (.lst xs.reverse))) ∨ (SqT K H1 a xs ∧ ∀ p, H1 p = none → Q (.ref p) (upd H1 p (.tup xs.reverse))))
theorem pe_back {e : Expr} {te : TE} {k : Nat} {p1 p2 p3 pos : Pos} (he : PE X e te) : PE X (.Subscript e (.Slice none none (some (.UnaryOp .USub (.Constant (.int 1) k p1) p2)) p3) pos) (tBack X.K te) := by
  refine ⟨fun pins s σ H Q I h => Subscript_ (thn (he.run pins s σ H _ I h) fun v s1 ⟨x, H1, I1, r1, a, xs, ex, q⟩ => ?_)⟩
  subst ex
  cases r1
  have step : PO X (some (.UnaryOp .USub (.Constant (.int 1) k p1) p2)) (tPart (tUn (rU fun i => .int (-i)) (tC (.int 1)))) := po_some (pe_un un_neg pe_int)
  have nopart := fun s I => (po_none (X := X)).run pins s σ H1 (fun o H' => o = none ∧ H' = H1) I ⟨rfl, rfl⟩
  refine wpAny_Slice (thn (nopart s1 I1) fun vl s2 ⟨l, H2, I2, pl, el, e2⟩ => ?_)
  subst el e2
  refine thn (nopart s2 I2) fun vu s3 ⟨u, H3, I3, pu, eu, e3⟩ => ?_
  subst eu e3
  refine thn (step.run pins s3 σ H3 (fun o H' => o = some (-1) ∧ H' = H3) I3 ⟨1, rfl, -1, rfl, rfl, rfl⟩) fun vs s4 ⟨o, H4, I4, ps, eo, e4⟩ => ?_
  subst eo e4
  cases pl
  cases pu
  have more : ∀ b ob, s4.heap.get? b = some ob → (s4.heap.push { cls := .type "slice", data := .fields #[Value.none, Value.none, vs] }).get? b = some ob := fun b ob q => Heap.get?_push_of_some _ q
  have I5 := I4.kept (t' := s4.toks) more
  have isl := Heap.IsSliceOf.new s4.heap Value.none Value.none vs
  rcases q with ⟨hx, q⟩ | ⟨hx, q⟩
  · obtain ⟨its, r, ht, hz⟩ := I5.list hx
    have hlen := r.length
    refine tail_any (ops := [.ref a, .ref s4.heap.objs.size]) ht.isList.typeIs (PySem.slot_list_getitem.lookup) ?_ (by with_unfolding_all rfl)
    refine wpAny_getItem_list_slice ht.isList isl .none .none ps (by decide) ?_ (by rw [List.size_toArray]; omega)
    rw [PySem.W.krv_pick]
    refine ⟨.ref _, _, I5.laid (t' := s4.toks) (o := .lst xs.reverse) (fun b ob q => Heap.get?_push_of_some _ q) (Nat.le_refl _) ⟨?_, _, 0, r.reverse, Heap.get?_push_size _ rfl⟩, rfl, q _ (I5.hok.fresh (Nat.le_refl _))⟩
    rw [List.length_reverse]; exact hz
  · obtain ⟨its, r, ht, hz⟩ := I5.tuple hx
    have hlen := r.length
    refine tail_any (ops := [.ref a, .ref s4.heap.objs.size]) ht.typeIs (PyProof.Rows.slot_tuple_getitem.lookup) ?_ (by with_unfolding_all rfl)
    refine item_back ht isl ps ?_ (by omega)
    refine ⟨.ref _, _, I5.laid (t' := s4.toks) (o := .tup xs.reverse) (fun b ob q => Heap.get?_push_of_some _ q) (Nat.le_refl _) ?_, rfl, q _ (I5.hok.fresh (Nat.le_refl _))⟩
    exact ⟨by rw [List.length_reverse]; exact hz, _, r.reverse, IsTup.new _ _⟩
end
section
variable {K : PySem.W.Frag} {H H0 H1 H2 : Hp} {Z Z0 Z1 Z2 : AS} {F F0 F1 F2 Fa Fd : FS} {B : Bk} {σ : L2.St} {ρ ρ0 ρ1 : Env}
/-- a state that another's step leaves -/
theorem SR.step (s : SR K B σ ρ H Z Fd) (p : Ps H Z Fa H1 Z1 F1) (dj : ∀ i j a, Fd i a → ¬ Fa j a) (mu : ∀ j a, Fa j a → ∃ vs, H a = some (.lst vs)) (nz : ∀ j a, Fa j a → ¬ Z a) (zt : ∀ a, Z1 a → ∃ o, H1 a = some o) (g : Good H1) : SR K B σ ρ H1 Z1 Fd := by
  have kp : ∀ i a o, H a = some o → (Z a ∨ Fd i a ∨ ∀ xs, o ≠ .lst xs) → H1 a = some o := fun i a o e h => p.keep a o e fun j z => by
    rcases h with h | h | h
    · exact nz j a z h
    · exact dj i j a h z
    · obtain ⟨vs, e'⟩ := mu j a z
      rw [e] at e'
      cases e'
      exact h vs rfl
  refine ⟨s.len, fun i => (s.sl i).mono p.zz (kp i), s.dj, fun i a z y => ?_, fun i a z => let ⟨vs, e⟩ := s.mu i a z; ⟨vs, kp i a _ e (.inr (.inl z))⟩, zt, g⟩
  rcases p.zn a y with y | y | ⟨j, y⟩
  · exact s.nz i a z y
  · obtain ⟨vs, e⟩ := s.mu i a z
    rw [y] at e
    cases e
  · exact dj i j a z y
/-- behind a call -/
theorem after_call {as : List Ar} {vs : List V} {outs : List R} {S : AS} (s : SR K B σ ρ H Z F) (hv : ArV K σ H Z as vs) (ok : ioOk as = true) (so : SR K (bOf vs) (vs.map some) outs H1 Z1 F1) (r : Rs H Z (ioF F as) H1 Z1 F1 S) :
    ∃ F', SR K B σ (putBack ρ as outs (dropI as ρ)) H1 Z1 F' ∧ Rs H Z F H1 Z1 F' S := by
  have ioi : ∀ {j a}, ioF F as j a → ∃ i, as[j]? = some (.io i) ∧ F i a := by
    intro j a z
    unfold ioF at z
    cases e : as[j]? with
    | none => rw [e] at z; exact z.elim
    | some x =>
      rw [e] at z
      cases x with
      | io i => exact ⟨i, rfl, z⟩
      | now d => exact z.elim
      | scr i => exact z.elim
      | exc i => exact z.elim
  have sd := dropI_sr as s
  have fd : ∀ {i a}, (if ioIn i as = true then fun _ => False else F i : AS) a → ioIn i as = false ∧ F i a := by
    intro i a z
    by_cases e : ioIn i as = true
    · rw [if_pos e] at z; exact z.elim
    · rw [if_neg e] at z; exact ⟨by simpa using e, z⟩
  have dj : ∀ i j a, (if ioIn i as = true then fun _ => False else F i : AS) a → ¬ ioF F as j a := fun i j a z y => by
    obtain ⟨e, z⟩ := fd z
    obtain ⟨i', e', y⟩ := ioi y
    have := s.dj i i' a z y
    subst this
    rw [(io_ix ok e').2] at e
    cases e
  have s2 := sd.step r.ps dj (fun j a z => let ⟨i, _, z⟩ := ioi z; s.mu i a z) (fun j a z => let ⟨i, _, z⟩ := ioi z; s.nz i a z) so.zt so.gd
  have dj2 : ∀ i j a, (if ioIn i as = true then fun _ => False else F i : AS) a → ¬ F1 j a := fun i j a z y => by
    rcases r.ps.fn j a y with ⟨j', y⟩ | y
    · exact dj i j' a z y
    · obtain ⟨vs, e⟩ := s.mu i a (fd z).2
      rw [y] at e
      cases e
  obtain ⟨F', s3, f'⟩ := back_sr s as vs outs so hv s2 dj2
  refine ⟨F', s3, ⟨⟨fun a o e n => r.ps.keep a o e fun j z => ?_, r.ps.dom, r.ps.zz, fun a z => ?_, fun i a z => ?_⟩, fun a z => ?_, fun a z => ?_⟩⟩
  · obtain ⟨i, _, z⟩ := ioi z
    exact n i z
  · rcases r.ps.zn a z with z | z | ⟨j, z⟩
    · exact .inl z
    · exact .inr (.inl z)
    · obtain ⟨i, _, z⟩ := ioi z
      exact .inr (.inr ⟨i, z⟩)
  · rcases f' i a z with z | ⟨j, z⟩
    · exact .inl ⟨i, (fd z).2⟩
    · rcases r.ps.fn j a z with ⟨j', y⟩ | y
      · obtain ⟨i, _, y⟩ := ioi y
        exact .inl ⟨i, y⟩
      · exact .inr y
  · obtain ⟨h1, h2, h3⟩ := r.tm a z
    refine ⟨h1, h2, fun i y => ?_⟩
    rcases f' i a y with y | ⟨j, y⟩
    · rcases r.tf a z with ⟨j, x⟩ | x
      · exact dj i j a y x
      · obtain ⟨vs, e⟩ := s.mu i a (fd y).2
        rw [x] at e
        cases e
    · exact h3 j y
  · rcases r.tf a z with ⟨j, x⟩ | x
    · obtain ⟨i, _, x⟩ := ioi x
      exact .inl ⟨i, x⟩
    · exact .inr x
end
section
variable {X : Cx} {B : Bk} {C : Calls} {G : Nat → D} {k : Nat} {pos : Pos} {ea eb ec : Ex} {a b c : Expr}
/-! ### arguments -/
theorem a_nil : PA X [] (spA X.K B (evA C G .nil)) := pa_nil.imp fun σ H Q ⟨ρ, Z, F, l, ρ', s, e, q⟩ => by
  simp only [evA] at e
  cases e
  exact q [] H Z F s Ps.refl rfl
theorem a_now {es : Exs} {l : List Expr} (ha : PE X a (spE X.K B C G ea 0)) (hr : PA X l (spA X.K B (evA C G es))) (hs : starEach (a :: l) X.env = (false, eval a X.env) :: starEach l X.env) (hi : ∀ i, ea ≠ .io i ∧ ea ≠ .sarg i ∧ ea ≠ .xarg i) : PA X (a :: l) (spA X.K B (evA C G (.cons ea es))) :=
  (pa_cons ha hr hs).imp fun σ H Q ⟨ρ, Z, F, l, ρ', s, e, q⟩ => by
    have e' : ((evE C G ea ρ).bind fun p => some (Ar.now p.1, p.2)).bind (fun p => (evA C G es p.2).bind fun q => some (p.1 :: q.1, q.2)) = some (l, ρ') := by
      rw [← e]
      simp only [evA]
      congr 1
      cases ea <;> first | rfl | exact absurd rfl (hi _).1 | exact absurd rfl (hi _).2.1 | exact absurd rfl (hi _).2.2
    obtain ⟨⟨p, ρ1⟩, e1, e3⟩ := Option.bind_eq_some_iff.mp e'
    obtain ⟨⟨x, ρ2⟩, e5, e4⟩ := Option.bind_eq_some_iff.mp e1
    cases e4
    obtain ⟨⟨xs, ρ3⟩, e2, e3⟩ := Option.bind_eq_some_iff.mp e3
    cases e3
    refine ⟨ρ, Z, F, x, _, s, e5, fun v H1 Z1 F1 T1 s1 r1 o1 => ⟨_, Z1, F1, xs, _, s1, e2, fun vs H2 Z2 F2 s2 r2 o2 => q (v :: vs) H2 Z2 F2 s2 (r1.ps.trans r2) ?_⟩⟩
    exact ⟨v, vs, rfl, r2.fz s1 (ow_zero.1 o1).1, o2⟩
theorem a_io {es : Exs} {l : List Expr} {i : Nat} {x : Str} (hN : X.N[i]? = some x) (hv : Vis X.env.scope x) (hd : (x == ("__debug__" : Str)) = false) (hcd : (x == ("__classdict__" : Str)) = false) (hr : PA X l (spA X.K B (evA C G es))) : PA X (.Name x pos :: l) (spA X.K B (evA C G (.cons (.io i) es))) :=
  (pa_cons (pe_var hN hv hd hcd) hr rfl).imp fun σ H Q ⟨ρ, Z, F, l, ρ', s, e, q⟩ => by
    simp only [evA] at e
    obtain ⟨⟨p, ρ1⟩, e1, e3⟩ := Option.bind_eq_some_iff.mp e
    obtain ⟨r, e5, e4⟩ := Option.bind_eq_some_iff.mp e1
    cases e4
    obtain ⟨⟨xs, ρ3⟩, e2, e3⟩ := Option.bind_eq_some_iff.mp e3
    cases e3
    have h := s.sl i
    unfold ioR at e5
    have ev : ∃ v, σ[i]? = some (some v) := by
      cases hs : slot ρ i with
      | own k d => rw [hs] at h; obtain ⟨v, ev, _⟩ := h; exact ⟨v, ev⟩
      | io k d => rw [hs] at h; obtain ⟨_, v, ev, _⟩ := h; exact ⟨v, ev⟩
      | un => rw [hs] at e5; cases e5
      | val d => rw [hs] at e5; cases e5
      | scr d => rw [hs] at e5; cases e5
      | exc d => rw [hs] at e5; cases e5
    obtain ⟨v, ev⟩ := ev
    exact ⟨v, ev, ρ, Z, F, xs, _, s, e2, fun vs H2 Z2 F2 s2 r2 o2 => q (v :: vs) H2 Z2 F2 s2 r2 ⟨v, vs, rfl, ev, o2⟩⟩
theorem SR.scr {K : PySem.W.Frag} {σ : L2.St} {ρ : Env} {H : Hp} {Z : AS} {F : FS} {i : Nat} {l : List Int} (s : SR K B σ ρ H Z F) (e : scrOf ρ i = some l) : ∃ a, σ[i]? = some (some (.ref a)) ∧ FrL K H a l := by
  have h := s.sl i
  unfold scrOf at e
  cases hs : slot ρ i with
  | scr d =>
    rw [hs] at h e
    cases e
    obtain ⟨⟨a, ev, h⟩, _⟩ := h
    exact ⟨a, ev, h⟩
  | un => rw [hs] at e; cases e
  | exc d => rw [hs] at e; cases e
  | val d => rw [hs] at e; cases e
  | own k d => rw [hs] at e; cases e
  | io k d => rw [hs] at e; cases e
theorem SR.exc {K : PySem.W.Frag} {σ : L2.St} {ρ : Env} {H : Hp} {Z : AS} {F : FS} {i : Nat} {l : Str} (s : SR K B σ ρ H Z F) (e : excOf ρ i = some l) : ∃ a, σ[i]? = some (some (.ref a)) ∧ H a = some (ExC (.ref (He.ga K l)) a) ∧ XOk K l := by
  have h := s.sl i
  unfold excOf at e
  cases hs : slot ρ i with
  | exc d =>
    rw [hs] at h e
    cases e
    obtain ⟨⟨a, ev, h⟩, _⟩ := h
    exact ⟨a, ev, h⟩
  | un => rw [hs] at e; cases e
  | scr d => rw [hs] at e; cases e
  | val d => rw [hs] at e; cases e
  | own k d => rw [hs] at e; cases e
  | io k d => rw [hs] at e; cases e
theorem a_scr {es : Exs} {l : List Expr} {i : Nat} {x : Str} (hN : X.N[i]? = some x) (hv : Vis X.env.scope x) (hd : (x == ("__debug__" : Str)) = false) (hcd : (x == ("__classdict__" : Str)) = false) (hr : PA X l (spA X.K B (evA C G es))) : PA X (.Name x pos :: l) (spA X.K B (evA C G (.cons (.sarg i) es))) :=
  (pa_cons (pe_var hN hv hd hcd) hr rfl).imp fun σ H Q ⟨ρ, Z, F, l, ρ', s, e, q⟩ => by
    simp only [evA] at e
    obtain ⟨⟨p, ρ1⟩, e1, e3⟩ := Option.bind_eq_some_iff.mp e
    obtain ⟨r, e5, e4⟩ := Option.bind_eq_some_iff.mp e1
    cases e4
    obtain ⟨⟨xs, ρ3⟩, e2, e3⟩ := Option.bind_eq_some_iff.mp e3
    cases e3
    obtain ⟨a, ev, _⟩ := s.scr e5
    exact ⟨_, ev, ρ, Z, F, xs, _, s, e2, fun vs H2 Z2 F2 s2 r2 o2 => q (_ :: vs) H2 Z2 F2 s2 r2 ⟨_, vs, rfl, ev, o2⟩⟩
theorem a_exc {es : Exs} {l : List Expr} {i : Nat} {x : Str} (hN : X.N[i]? = some x) (hv : Vis X.env.scope x) (hd : (x == ("__debug__" : Str)) = false) (hcd : (x == ("__classdict__" : Str)) = false) (hr : PA X l (spA X.K B (evA C G es))) : PA X (.Name x pos :: l) (spA X.K B (evA C G (.cons (.xarg i) es))) :=
  (pa_cons (pe_var hN hv hd hcd) hr rfl).imp fun σ H Q ⟨ρ, Z, F, l, ρ', s, e, q⟩ => by
    simp only [evA] at e
    obtain ⟨⟨p, ρ1⟩, e1, e3⟩ := Option.bind_eq_some_iff.mp e
    obtain ⟨⟨xs, ρ3⟩, e2, e3⟩ := Option.bind_eq_some_iff.mp e3
    cases e3
    have h := s.sl i
    cases hs : slot ρ i with
    | exc c =>
      rw [hs] at e1 h
      cases e1
      obtain ⟨⟨a, ev, _⟩, _⟩ := h
      exact ⟨_, ev, ρ, Z, F, xs, _, s, e2, fun vs H2 Z2 F2 s2 r2 o2 => q (_ :: vs) H2 Z2 F2 s2 r2 ⟨_, vs, rfl, ev, o2⟩⟩
    | val d =>
      rw [hs] at e1 h
      cases e1
      obtain ⟨v, ev, f, _⟩ := h
      exact ⟨_, ev, ρ, Z, F, xs, _, s, e2, fun vs H2 Z2 F2 s2 r2 o2 => q (_ :: vs) H2 Z2 F2 s2 r2 ⟨_, vs, rfl, r2.fz s f, o2⟩⟩
    | un => rw [hs] at e1; cases e1
    | own k d => rw [hs] at e1; cases e1
    | io k d => rw [hs] at e1; cases e1
    | scr d => rw [hs] at e1; cases e1
/-! ### a call -/
theorem call_fin {T : Tab} {n f : Nat} {as : Exs} {σ : L2.St} {H : Hp} {Q : VK} (hk : k ≤ ownT T f) (h : spE X.K B (callN T G n) G (.call f as) k σ H Q) : spA X.K B (evA (callN T G n) G as) σ H fun vs H1 => spFn X.K T G n f vs H1 Q := by
  obtain ⟨ρ, Z, F, d, ρ', s, e, q⟩ := h
  simp only [evE] at e
  obtain ⟨⟨ars, ρ1⟩, e1, e⟩ := Option.bind_eq_some_iff.mp e
  dsimp only at e
  split at e
  · rename_i ok
    obtain ⟨rs, e2, e⟩ := Option.bind_eq_some_iff.mp e
    obtain ⟨⟨d', outs⟩, e3, e⟩ := Option.bind_eq_some_iff.mp e
    cases e
    refine ⟨ρ, Z, F, ars, ρ1, s, e1, fun vs H1 Z1 F1 s1 p1 hv => ⟨rs, Z1, ioF F1 ars, _, outs, args_sr s1 e2 hv ok, e3, fun v H2 Z2 F2 S so r o => ?_⟩⟩
    obtain ⟨F', s3, r3⟩ := after_call s1 hv ok so r
    exact fin_ow s3 (Rs.pre p1 r3) o hk fun Z' T' s r o => q _ _ _ _ _ s r o
  · cases e
theorem s_call {T : Tab} {n f : Nat} {as : Exs} {x : Str} {p : Pos} {e : Expr} {es : List Expr} {fa : Addr} {fd : FuncData} {ps : List Str} (g : GFn X.prog X.w X.K X.mg X.base n fa fd ps (spFn X.K T G n f)) (room : GRoom n X.A) (gl : Gl X x) (hm : X.mg x = some (.ref fa)) (kp : PySem.W.keepIn X.K (.ref fa) = true) (bi : Binds X.K fd ps [])
    (ha : PA X (e :: es) (spA X.K B (evA (callN T G n) G as))) (nd : (x == ("__debug__" : Str)) = false) (st : starEach (e :: es) X.env = (false, eval e X.env) :: starEach es X.env) (pl : (backTo pos (starEach es X.env)).any (·.1) = false) (hk : k ≤ ownT T f) :
    PE X (.Call (.Name x p) (e :: es) [] pos) (spE X.K B (callN T G n) G (.call f as) k) :=
  (g_call g room gl hm kp bi ha nd st pl).imp fun σ H Q h => call_fin hk h
theorem s_call0 {T : Tab} {n f : Nat} {x : Str} {p : Pos} {fa : Addr} {fd : FuncData} {ps : List Str} (g : GFn X.prog X.w X.K X.mg X.base n fa fd ps (spFn X.K T G n f)) (room : GRoom n X.A) (gl : Gl X x) (hm : X.mg x = some (.ref fa)) (kp : PySem.W.keepIn X.K (.ref fa) = true) (bi : Binds X.K fd ps [])
    (nd : (x == ("__debug__" : Str)) = false) (hk : k ≤ ownT T f) : PE X (.Call (.Name x p) [] [] pos) (spE X.K B (callN T G n) G (.call f .nil) k) :=
  (g_call0 g room gl hm kp bi nd).imp fun σ H Q h => by
    obtain ⟨ρ, Z, F, l, ρ', s, e, q⟩ := call_fin hk h
    simp only [evA] at e
    cases e
    exact q [] H Z F s Ps.refl rfl
/-! ### the script -/
theorem s_sidx {i : Nat} {x : Str} {p : Pos} (hN : X.N[i]? = some x) (hv : Vis X.env.scope x) (hd : (x == ("__debug__" : Str)) = false) (hcd : (x == ("__classdict__" : Str)) = false) (hb : PE X b (spE X.K B C G eb 0)) (hs : PlainIx b) :
    PE X (.Subscript (.Name x p) b pos) (spE X.K B C G (.sidx i eb) k) :=
  (pe_ix ix_list (pe_var hN hv hd hcd) hb hs).imp fun σ H Q ⟨ρ, Z, F, d, ρ', s, e, q⟩ => by
    simp only [evE] at e
    obtain ⟨l, e3, e⟩ := Option.bind_eq_some_iff.mp e
    obtain ⟨⟨y, ρ1⟩, e1, e⟩ := Option.bind_eq_some_iff.mp e
    obtain ⟨n, e2, e⟩ := Option.bind_eq_some_iff.mp e
    obtain ⟨z, e4, e⟩ := Option.bind_eq_some_iff.mp e
    cases e
    obtain ⟨a, ev, h⟩ := s.scr e3
    refine ⟨_, ev, ρ, Z, F, y, _, s, e1, fun u H' Z' F' T s' r o => ?_⟩
    have h' : FrL X.K H' a l := h.mono fun o ho n => r.ps.keep a _ ho fun j z => by
      obtain ⟨vs, e⟩ := s.mu j a z
      rw [ho] at e
      cases e
      exact n _ rfl
    cases y <;> cases e2
    refine ⟨a, _, _, .int z, rfl, ow_int o, h'.sq, ?_, kn_int (q.pre r.ps) s'⟩
    unfold atI at e4 ⊢
    rw [List.length_map]
    obtain ⟨j, e5, e6⟩ := Option.bind_eq_some_iff.mp e4
    rw [e5]
    show (l.map V.int)[j]? = _
    rw [List.getElem?_map, e6]
    rfl
theorem s_slen {i : Nat} {x y : Str} {p p' : Pos} (hg : Gl X "len") (hm : X.mg "len" = none) (hN : X.N[i]? = some x) (hv : Vis X.env.scope x) (hd : (x == ("__debug__" : Str)) = false) (hcd : (x == ("__classdict__" : Str)) = false) :
    PE X (.Call (.Name "len" p') [.Name x p] [] pos) (spE X.K B C G (.slen i) k) :=
  (pe_callB call_len_seq hg hm PySem.boot_len (pa_cons (pe_var hN hv hd hcd) pa_nil)).imp fun σ H Q ⟨ρ, Z, F, d, ρ', s, e, q⟩ => by
    simp only [evE] at e
    obtain ⟨l, e3, e⟩ := Option.bind_eq_some_iff.mp e
    cases e
    obtain ⟨a, ev, h⟩ := s.scr e3
    refine ⟨_, ev, a, l.map V.int, rfl, .inl h.sq, ?_⟩
    rw [List.length_map]
    exact kn_int q s
/-! ### slices -/
def spP (K : PySem.W.Frag) (B : Bk) (f : Env → Option (Option Int × Env)) : TO := fun σ H Q => ∃ ρ Z F o ρ', SR K B σ ρ H Z F ∧ f ρ = some (o, ρ') ∧
  ∀ H' Z' F', SR K B σ ρ' H' Z' F' → Ps H Z F H' Z' F' → Q o H'
theorem p_none : PO X none (spP X.K B (partE (evL C G .nil))) := ⟨fun pins s σ H Q I ⟨ρ, Z, F, o, ρ', sr, e, q⟩ => po_none.run pins s σ H Q I (by
  simp only [partE, evL] at e
  cases e
  exact q H Z F sr Ps.refl)⟩
theorem p_some (ha : PE X a (spE X.K B C G ea 0)) : PO X (some a) (spP X.K B (partE (evL C G (.cons ea .nil)))) :=
  ⟨fun pins s σ H Q I ⟨ρ, Z, F, o, ρ', sr, e, q⟩ => (po_some ha).run pins s σ H Q I (by
    simp only [partE, evL] at e
    obtain ⟨⟨l, ρ2⟩, e0, e⟩ := Option.bind_eq_some_iff.mp e
    obtain ⟨o', e2, e⟩ := Option.bind_eq_some_iff.mp e
    obtain ⟨⟨x, ρ1⟩, e1, e0⟩ := Option.bind_eq_some_iff.mp e0
    cases e0
    cases e
    refine ⟨ρ, Z, F, x, _, sr, e1, fun v H' Z' F' T s' r w => ?_⟩
    cases x <;> cases e2
    exact ⟨_, ow_int w, q H' Z' F' s' r.ps⟩)⟩
theorem s_slc {lo hi : Exs} {l h : Option Expr} {p2 : Pos} (ha : PE X a (spO X.K B (opX C G ea))) (hl : PO X l (spP X.K B (partE (evL C G lo)))) (hh : PO X h (spP X.K B (partE (evL C G hi)))) (hk : k ≤ 1) :
    PE X (.Subscript a (.Slice l h none p2) pos) (spE X.K B C G (.slc ea lo hi) k) :=
  (pe_slice (sl_list.or sl_tupA) ha hl hh).imp fun σ H Q ⟨ρ, Z, F, d, ρ', s, e, q⟩ => by
    simp only [evE] at e
    obtain ⟨⟨p, ρ1⟩, e1, e⟩ := Option.bind_eq_some_iff.mp e
    obtain ⟨⟨o1, ρ2⟩, e2, e⟩ := Option.bind_eq_some_iff.mp e
    obtain ⟨⟨o2, ρ3⟩, e3, e⟩ := Option.bind_eq_some_iff.mp e
    obtain ⟨⟨k1, x⟩, e4, e⟩ := Option.bind_eq_some_iff.mp e
    dsimp only at e2 e3 e4 e
    split at e
    · rename_i hk1
      obtain ⟨z, e5, e⟩ := Option.bind_eq_some_iff.mp e
      cases e
      refine ⟨ρ, Z, F, p, ρ1, s, e1, fun v H1 Z1 F1 s1 q1 w1 => ⟨ρ1, Z1, F1, o1, ρ2, s1, e2, fun H2 Z2 F2 s2 q2 => ⟨ρ2, Z2, F2, o2, _, s2, e3, fun H3 Z3 F3 s3 q3 => ?_⟩⟩⟩
      obtain ⟨T, w⟩ := ((w1.ps s1 q2).ps s2 q3).view s3 e4
      have ps := (q1.trans q2).trans q3
      unfold slcD at e5
      split at e5
      · cases e5
        obtain ⟨ad, vs, rfl, hp, fp⟩ := seq_of_ow w hk1
        refine .inl ⟨ad, vs, rfl, .inl (.inl hp), fun p n => kn_lst (q.pre ps) s3 n (fzL_cut fp) ?_ hk⟩
        exact Nat.le_trans (cutV_length _ _ _) (s3.gd ad vs (.inl (.inl hp)))
      · cases e5
        obtain ⟨ad, vs, rfl, hp, fp⟩ := tup_of_ow w
        refine .inr ⟨ad, vs, rfl, hp, fun ⟨c1, c2⟩ => ?_, fun _ p n => kn_tup (q.pre ps) s3 n (fzL_cut fp) ?_⟩
        · refine kn_tup0 (q.pre ps) s3 (vs := vs) ?_ hp
          have c := fzL_cut (lo := o1) (hi := o2) fp
          have cv : cutV vs o1 o2 = vs := by
            unfold cutV
            rw [c1, c2]
            simp
          rwa [cv] at c
        · refine Nat.le_trans (cutV_length _ _ _) ?_
          rcases hp with hp | ⟨o, its, n, _, _, _, hz, vv⟩
          · exact s3.gd ad vs (.inr hp)
          · have := vv.length
            simp only [Array.length_toList] at this
            omega
      · cases e5
    · cases e
theorem FzL.rev {K : PySem.W.Frag} {H : Hp} {Z : AS} : ∀ {l : List D} {vs : List V}, FzL K H Z l vs → FzL K H Z l.reverse vs.reverse
  | [], _, h => by cases h; rfl
  | d :: ds, _, h => by
    unfold FzL at h
    obtain ⟨v, us, rfl, h1, h2⟩ := h
    rw [List.reverse_cons, List.reverse_cons]
    exact (FzL.rev h2).app ⟨v, [], rfl, h1, rfl⟩
/-- one operand, looked at at once -/
def spU (K : PySem.W.Frag) (B : Bk) (f : Env → Option ((Nat × D) × Env)) : TE := fun σ H Q => ∃ ρ Z F kd ρ', SR K B σ ρ H Z F ∧ f ρ = some (kd, ρ') ∧
  ∀ v H' Z' F' T, SR K B σ ρ' H' Z' F' → Ps H Z F H' Z' F' → Ow K H' Z' kd.2 kd.1 v T → Q v H'
abbrev o1X (C : Calls) (G : Nat → D) (e : Ex) : Env → Option ((Nat × D) × Env) := op1 e (evE C G e)
theorem s_rev {j : Nat} {p1 p2 p3 : Pos} (ha : PE X a (spU X.K B (o1X C G ea))) (hk : k ≤ 1) : PE X (.Subscript a (.Slice none none (some (.UnaryOp .USub (.Constant (.int 1) j p1) p2)) p3) pos) (spE X.K B C G (.rev ea) k) :=
  (pe_back (k := j) ha).imp fun σ H Q ⟨ρ, Z, F, d, ρ', s, e, q⟩ => by
    simp only [evE] at e
    obtain ⟨⟨⟨k1, x⟩, ρ1⟩, e1, e⟩ := Option.bind_eq_some_iff.mp e
    dsimp only at e
    split at e
    · rename_i hk1
      cases x with
      | list l =>
        cases e
        refine ⟨ρ, Z, F, _, _, s, e1, fun v H' Z' F' T s' ps w => ?_⟩
        obtain ⟨ad, vs, rfl, hp, fp⟩ := seq_of_ow w hk1
        refine ⟨ad, vs, rfl, .inl ⟨.inl (.inl hp), fun p n => kn_lst (q.pre ps) s' n fp.rev ?_ hk⟩⟩
        rw [List.length_reverse]
        exact s'.gd ad vs (.inl (.inl hp))
      | tuple l =>
        cases e
        refine ⟨ρ, Z, F, _, _, s, e1, fun v H' Z' F' T s' ps w => ?_⟩
        obtain ⟨ad, vs, rfl, hp, fp⟩ := tup_of_ow w
        refine ⟨ad, vs, rfl, .inr ⟨hp, fun p n => kn_tup (q.pre ps) s' n fp.rev ?_⟩⟩
        rw [List.length_reverse]
        rcases hp with hp | ⟨o, its, n, _, _, _, hz, vv⟩
        · exact s'.gd ad vs (.inr hp)
        · have := vv.length
          simp only [Array.length_toList] at this
          omega
      | _ => cases e
    · cases e
end
end
end BW

/-! BwX0: sorted(a tuple of numbers). -/
namespace BW
noncomputable section
open PySem PySem.Spec PyProof.Rows L2
section
variable {P : Program} {w : World} {A : Around} {s : Shared} {E : Value → Shared → Prop}
abbrev lst0 (h : Heap) : Heap := h.push (seqObj "list" #[] 0)
abbrev lst1 (h : Heap) (vs : List Value) : Heap := (lst0 h).update h.objs.size (Obj.mapSeq (· ++ vs.toArray))
theorem coll_tup {t : Addr} {vs : List Value} {Q : List Value → Shared → Prop} (ht : s.heap.IsTuple t vs.toArray) (hz : vs.length ≤ sizeLine) (q : Q vs { s with heap := lst1 s.heap vs }) : wpAny (model P w) A (collect (.ref t)) Q E s := by
  obtain ⟨o, o1, o2, n, o3⟩ := ht
  have o4 : (lst0 s.heap).get? t = some o := Heap.get?_push_of_some _ o1
  have e1 : (Value.type "tuple" == Value.type "tuple") = true := rfl
  unfold collect
  refine wpAny_bind (wpAny_runValue (codeAny_builtin entry_proto_collect' (show wpAny _ _ (do again (.builtin "list.__iadd__" ⟨[← newList [], .ref t], []⟩)) _ _ s from ?_)))
  refine wpAny_bind (wpAny_newList (wpAny_pure ⟨Code.quiet_builtin _ (by decide +kernel), codeAny_builtin entry_list_iadd' (show wpAny _ _ (Builtin.List.listExtendWith (.ref s.heap.objs.size) (.ref t) (.ref s.heap.objs.size)) _ _ { s with heap := lst0 s.heap } from ?_)⟩))
  unfold Builtin.List.listExtendWith
  refine wpAny_bind (wpAny_typeOf (T := "tuple") ⟨o, o4, o2⟩ ?_)
  rw [e1, Bool.or_true, if_pos rfl]
  refine wpAny_bind (listItems_at o4 o3 (wpAny_bind (listItems_at (xs := #[]) (n := 0) (Heap.get?_push_size _ rfl) rfl ?_)))
  rw [if_neg (by simp)]
  refine wpAny_bind (listUpdate_at (xs := #[]) (n := 0) (Heap.get?_push_size _ rfl) rfl (wpAny_pure ?_) (Nat.zero_le _) (by show (#[] ++ vs.toArray).size ≤ sizeLine + 1; simp only [Array.size_append, List.size_toArray, List.length_nil]; omega))
  show wpAny (model P w) A (load s.heap.objs.size >>= fun o => match o.data with | .seq xs _ => pure xs.toList | _ => unsupported "internal:collect") Q E { s with heap := lst1 s.heap vs }
  refine wpAny_bind (wpAny_load (get?_update_seq (Heap.get?_push_size _ rfl) _) (show wpAny _ _ (pure ((#[] : Array Value) ++ vs.toArray).toList) Q E _ from ?_))
  have e2 : ((#[] : Array Value) ++ vs.toArray).toList = vs := by simp
  rw [e2]
  exact wpAny_pure q
theorem srt_tup {t : Addr} {vs : List Value} {lt : Value → Value → Bool} {Q : Value → Shared → Prop} (O : SrtO.Swo lt) (ht : s.heap.IsTuple t vs.toArray) (hz : vs.length ≤ sizeLine)
    (so : 2 ≤ vs.length → ∀ (g : Heap) (a : Addr), g.get? a = some (seqObj "list" vs.toArray 0) → (∀ b o, s.heap.get? b = some o → b ≠ a ∧ g.get? b = some o) → SrtO.SortableO P w A.in1.in1 { s with heap := g } a vs lt)
    (q : ∀ out : List Value, SrtO.Srtd lt out → SrtO.Stb lt out vs → Q (.ref (s.heap.objs.size + 1)) { s with heap := sortedAll s.heap vs out.toArray }) : wpAny (model P w) A (call (.builtin "sorted") [.ref t]) Q E s := by
  refine Calls.call_function_entry kind_sorted plain_sorted entry_sorted (args_sorted1 _) ?_
  unfold Builtin.«sorted»
  have sz : (lst1 s.heap vs).objs.size = s.heap.objs.size + 1 := by rw [Heap.size_update, size_push']
  have at1 : ((lst1 s.heap vs).push (seqObj "list" vs.toArray 0)).get? (s.heap.objs.size + 1) = some (seqObj "list" vs.toArray 0) := by
    rw [← sz]
    exact Heap.get?_push_size _ rfl
  refine wpAny_bind (m := checkCount "sorted" 1 1 _) (wpAny_pure (wpAny_bind (coll_tup ht hz (wpAny_bind (wpAny_newList (show wpAny _ _ _ _ _ { s with heap := (lst1 s.heap vs).push (seqObj "list" vs.toArray 0) } from ?_) hz)))))
  rw [sz]
  refine wpAny_bind (wpAny_holding (wpAny_call_entry slot_list_sort ⟨_, at1, rfl⟩ entry_list_sort (SrtO.list_sort_ord O at1 hz (fun h2 => so h2 _ _ at1 fun b o e => ?_) fun out h1 h2 => ⟨_, rfl, wpAny_pure ⟨_, rfl, q out h1 h2⟩⟩) (args_list_sort _)))
  have lt0 := Heap.lt_size e
  refine ⟨Nat.ne_of_lt (Nat.lt_succ_of_lt lt0), Heap.get?_push_of_some _ ((Heap.get?_update_ne _ _ _ _ (Nat.ne_of_lt lt0)).trans (Heap.get?_push_of_some _ e))⟩
end
section
variable {X : Cx}
def rSrtTup (K : PySem.W.Frag) : List V → Hp → VK → Prop := fun vs H Q => ∃ (a : Addr) (ns : List Int), vs = [V.ref a] ∧ SqT K H a (ns.map V.int) ∧ ∀ (ms : List Int) (p : Addr), ms.Perm ns → ms.Pairwise (· ≤ ·) → H p = none → Q (.ref p) (upd H p (.lst (ms.map V.int)))
theorem cr_srtTup : CallR X (.builtin "sorted") (rSrtTup X.K) := by
  intro pins s σ H vs us Q I r h
  obtain ⟨a, ns, rfl, hs, q⟩ := h
  obtain ⟨its, rv, ⟨o, o1, o2, n, o3⟩, hz⟩ := I.tuple hs
  rw [Vals.ref1 r]
  have hi := rv.ints
  refine srt_tup SrtO.swo_int ⟨o, o1, o2, n, o3⟩ (by rw [← rv.length]; exact hz) (fun h2 g a' _ _ => SrtO.ints_sortable hi h2) fun out h1 h2 => ?_
  obtain ⟨k1, k2, k3⟩ := SrtO.ints_out hi h1 h2
  obtain ⟨ep, at'⟩ := PyProof.Rows.sortedAll_at s.heap its out.toArray
  have len : ((out.map SrtO.iv).map V.int).length ≤ sizeLine := by
    rw [List.length_map] at hz ⊢
    rw [k2.length_eq]
    exact hz
  exact ⟨.ref _, upd H (s.heap.objs.size + 1) (.lst ((out.map SrtO.iv).map V.int)), I.laid (t' := s.toks) (fun _ _ => PyProof.Rows.sortedAll_old) (Nat.le_succ _) ⟨len, out, ep, L2.vals_of_ints k1, at'⟩, rfl, q _ _ k2 k3 (I.hok.fresh (Nat.le_succ _))⟩
def rSrtE (K : PySem.W.Frag) : List V → Hp → VK → Prop := fun vs H Q => rSortedI K vs H Q ∨ rSrtTup K vs H Q
theorem cr_srtE : CallR X (.builtin "sorted") (rSrtE X.K) := fun pins s σ H vs us Q I r h => h.elim (cr_sortedI pins s σ H vs us Q I r) (cr_srtTup pins s σ H vs us Q I r)
end
section
variable {P : Program} {w : World} {A : Around} {s : Shared} {E : Value → Shared → Prop}
theorem mnum1 {t z : Nat} (h : t < z) : ∀ b ∈ [z, t], b < z + 1 := fun b hb => by
  simp only [List.mem_cons, List.not_mem_nil, or_false] at hb
  omega
theorem mnum2 {b z : Nat} (h : b < z) : b ∉ [z] := by simp only [List.mem_cons, List.not_mem_nil, or_false]; omega
/-- min of a tuple of numbers -/
theorem min_tup {t : Addr} {its : List Value} {ns : List Int} {Q : Value → Shared → Prop} (nh : A.handled = none) (ht : s.heap.IsTuple t its.toArray) (hi : IntsAre its ns) (hne : 0 < ns.length)
    (q : ∀ g tk m t', (∀ b o, s.heap.get? b = some o → g.get? b = some o) → m ∈ ns → (∀ y, y ∈ ns → m ≤ y) → Q (.int m t') { s with heap := g, toks := tk }) : wpAny (model P w) A (call (.builtin "min") [.ref t]) Q E s := by
  obtain ⟨xs, e⟩ := hi.allInts.items
  have hn : numsOf (intItems xs).toList = ns := by rw [← e, hi.numsOf]
  rw [nums_intItems] at hn
  subst hn
  rw [e] at ht
  have sz : 0 < xs.size := by simpa using hne
  have lt0 : t < s.heap.objs.size := by
    obtain ⟨_, o, _⟩ := ht
    exact Heap.lt_size o
  refine call_min_walk (wpAny_pyIter_tuple ht ⟨_, _, _, _, _, _, _, rfl, Walks.tuple (A := A.in1) nh _ t (Nat.ne_of_lt lt0) (intItems xs), ⟨⟨_, Heap.get?_push_size _ rfl, rfl, rfl⟩, ht.push _⟩, ?_, by simpa [intItems] using sz, CmpOf.ints_lt (numAt xs) (fun _ _ => intItems_at), fun v g tk hP hk => ?_⟩)
  · show ∀ b ∈ _, b < (s.heap.push _).objs.size
    rw [Heap.size_push]
    exact mnum1 lt0
  · have hP' : (intItems xs)[argBest (fun i j => decide (numAt xs i < numAt xs j)) (xs.size - 1)]? = some v := by simpa [intItems] using hP
    obtain ⟨t', rfl⟩ := intItems_at hP'
    obtain ⟨b1, b2⟩ := argBest_lt (numAt xs) (xs.size - 1)
    refine q g tk _ t' (fun b o eo => hk b o (mnum2 (Heap.lt_size eo)) (Heap.get?_push_of_some _ eo)) ?_ fun y hy => ?_
    · rw [numAt_eq]
      exact PySem.getD_mem (by rw [List.length_map, Array.length_toList]; omega)
    · obtain ⟨j, hj, rfl⟩ := mem_getD hy
      rw [List.length_map, Array.length_toList] at hj
      rw [← numAt_eq]
      exact b2 j (by omega)
end
section
variable {X : Cx}
def rMinT (K : PySem.W.Frag) : List V → Hp → VK → Prop := fun vs H Q => ∃ (a : Addr) (ns : List Int), vs = [V.ref a] ∧ SqT K H a (ns.map V.int) ∧ 0 < ns.length ∧ ∀ m, m ∈ ns → (∀ y, y ∈ ns → m ≤ y) → Q (.int m) H
theorem cr_minT (hc : X.calm = true) : CallR X (.builtin "min") (rMinT X.K) := by
  intro pins s σ H vs us Q I r h
  obtain ⟨a, ns, rfl, hs, hne, q⟩ := h
  obtain ⟨its, rv, ⟨o, o1, o2, n, o3⟩, _⟩ := I.tuple hs
  rw [Vals.ref1 r]
  exact min_tup (I.ok.hd hc) ⟨o, o1, o2, n, o3⟩ rv.ints hne fun g tk m t' hk h1 h2 => ⟨.int _, H, I.kept hk, ⟨_, rfl⟩, q m h1 h2⟩
def rMinE (K : PySem.W.Frag) : List V → Hp → VK → Prop := fun vs H Q => rMin K vs H Q ∨ rMinT K vs H Q
theorem cr_minE (hc : X.calm = true) : CallR X (.builtin "min") (rMinE X.K) := fun pins s σ H vs us Q I r h => h.elim (cr_min hc pins s σ H vs us Q I r) (cr_minT hc pins s σ H vs us Q I r)
end
end
end BW

/-! BwE8: calls of builtins. -/
namespace BW
noncomputable section
open PySem PySem.Spec PyProof.Rows L2
section
variable {K : PySem.W.Frag} {H H0 H1 H2 : Hp} {Z Z0 Z1 Z2 : AS} {F F0 F1 F2 : FS} {B : Bk} {σ : L2.St} {ρ ρ0 ρ1 : Env} {Q : VK} {d : D} {k : Nat}
theorem fzL_ints : ∀ {l : List D} {vs : List V} {ns : List Int}, FzL K H Z l vs → intsOf l = some ns → vs = ns.map V.int
  | [], _, _, h, e => by cases h; cases e; rfl
  | .int i :: r, _, _, h, e => by
    unfold FzL at h
    obtain ⟨v, ws, rfl, h1, h2⟩ := h
    obtain ⟨ms, e1, rfl⟩ := Option.map_eq_some_iff.mp e
    cases h1
    rw [fzL_ints h2 e1]
    rfl
  | .none :: _, _, _, _, e => by cases e
  | .bool _ :: _, _, _, _, e => by cases e
  | .str _ :: _, _, _, _, e => by cases e
  | .list _ :: _, _, _, _, e => by cases e
  | .tuple _ :: _, _, _, _, e => by cases e
  | .dict _ :: _, _, _, _, e => by cases e
theorem fzL_bools : ∀ {l : List D} {vs : List V} {ns : List Bool}, FzL K H Z l vs → boolsOf l = some ns → vs = ns.map V.bl
  | [], _, _, h, e => by cases h; cases e; rfl
  | .bool i :: r, _, _, h, e => by
    unfold FzL at h
    obtain ⟨v, ws, rfl, h1, h2⟩ := h
    obtain ⟨ms, e1, rfl⟩ := Option.map_eq_some_iff.mp e
    cases h1
    rw [fzL_bools h2 e1]
    rfl
  | .none :: _, _, _, _, e => by cases e
  | .int _ :: _, _, _, _, e => by cases e
  | .str _ :: _, _, _, _, e => by cases e
  | .list _ :: _, _, _, _, e => by cases e
  | .tuple _ :: _, _, _, _, e => by cases e
  | .dict _ :: _, _, _, _, e => by cases e
theorem minL_spec : ∀ {ns : List Int} {m : Int}, minL ns = some m → 0 < ns.length ∧ m ∈ ns ∧ ∀ y ∈ ns, m ≤ y
  | [], _, e => by cases e
  | i :: r, m, e => by
    cases e
    have h : ∀ (r : List Int) (i : Int), (r.foldl (fun a b => if b < a then b else a) i = i ∨ r.foldl (fun a b => if b < a then b else a) i ∈ r) ∧ r.foldl (fun a b => if b < a then b else a) i ≤ i ∧ ∀ y ∈ r, r.foldl (fun a b => if b < a then b else a) i ≤ y := by
      intro r
      induction r with
      | nil => intro i; exact ⟨.inl rfl, Int.le_refl _, fun y hy => by cases hy⟩
      | cons b r ih =>
        intro i
        obtain ⟨h1, h2, h3⟩ := ih (if b < i then b else i)
        simp only [List.foldl_cons, List.mem_cons]
        by_cases hb : b < i
        · rw [if_pos hb] at h1 h2 h3 ⊢
          refine ⟨h1.elim (fun h => .inr (.inl h)) fun h => .inr (.inr h), by omega, fun y hy => hy.elim (fun e => by omega) (h3 y)⟩
        · rw [if_neg hb] at h1 h2 h3 ⊢
          refine ⟨h1.elim .inl fun h => .inr (.inr h), h2, fun y hy => hy.elim (fun e => by omega) (h3 y)⟩
    obtain ⟨h1, h2, h3⟩ := h r i
    exact ⟨Nat.succ_pos _, List.mem_cons.mpr h1, fun y hy => (List.mem_cons.mp hy).elim (fun e => by rw [e]; exact h2) (h3 y)⟩
theorem maxL_spec : ∀ {ns : List Int} {m : Int}, maxL ns = some m → 0 < ns.length ∧ m ∈ ns ∧ ∀ y ∈ ns, y ≤ m
  | [], _, e => by cases e
  | i :: r, m, e => by
    cases e
    have h : ∀ (r : List Int) (i : Int), (r.foldl (fun a b => if b > a then b else a) i = i ∨ r.foldl (fun a b => if b > a then b else a) i ∈ r) ∧ i ≤ r.foldl (fun a b => if b > a then b else a) i ∧ ∀ y ∈ r, y ≤ r.foldl (fun a b => if b > a then b else a) i := by
      intro r
      induction r with
      | nil => intro i; exact ⟨.inl rfl, Int.le_refl _, fun y hy => by cases hy⟩
      | cons b r ih =>
        intro i
        obtain ⟨h1, h2, h3⟩ := ih (if b > i then b else i)
        simp only [List.foldl_cons, List.mem_cons]
        by_cases hb : b > i
        · rw [if_pos hb] at h1 h2 h3 ⊢
          refine ⟨h1.elim (fun h => .inr (.inl h)) fun h => .inr (.inr h), by omega, fun y hy => hy.elim (fun e => by omega) (h3 y)⟩
        · rw [if_neg hb] at h1 h2 h3 ⊢
          refine ⟨h1.elim .inl fun h => .inr (.inr h), h2, fun y hy => hy.elim (fun e => by omega) (h3 y)⟩
    obtain ⟨h1, h2, h3⟩ := h r i
    exact ⟨Nat.succ_pos _, List.mem_cons.mpr h1, fun y hy => (List.mem_cons.mp hy).elim (fun e => by rw [e]; exact h2) (h3 y)⟩
/-- one-place builtins -/
def bltN : Blt → Str
  | .len => "len" | .abs => "abs" | .min => "min" | .max => "max" | .sum => "sum" | .all => "all" | .any => "any" | .tuple => "tuple" | .list => "list" | .sorted => "sorted" | .int => "int" | .str => "str" | .repr => "repr" | .setlen => "set"
def bltIsTy : Blt → Bool
  | .tuple | .list | .int | .str => true
  | _ => false
def bltId : Blt → String
  | .len => "len" | .abs => "abs" | .min => "min" | .max => "max" | .sum => "sum" | .all => "all" | .any => "any" | .tuple => "tuple" | .list => "list" | .sorted => "sorted" | .int => "int" | .str => "str" | .repr => "repr" | .setlen => "set"
def bltOk : Blt → Bool
  | .len | .abs | .min | .max | .sum | .all | .any | .tuple | .list | .int | .str | .repr | .sorted => true
  | _ => false
theorem fzL_ofInts {K : PySem.W.Frag} {H : Hp} {Z : AS} : ∀ (ns : List Int), FzL K H Z (ns.map PyData.int) (ns.map V.int)
  | [] => by unfold FzL; rfl
  | n :: ns => by
    unfold FzL
    exact ⟨_, _, rfl, rfl, fzL_ofInts ns⟩
theorem srtI_uniq {ns ns' : List Int} (pm : ns'.Perm ns) (pw : ns'.Pairwise (· ≤ ·)) : ns' = srtI ns := by
  have p2 : (srtI ns).Perm ns := List.mergeSort_perm _ _
  have s2 : (srtI ns).Pairwise (· ≤ ·) := by
    have := List.pairwise_mergeSort (le := fun a b : Int => decide (a ≤ b)) (fun a b c h1 h2 => by simp at *; omega) (fun a b => by simp; omega) ns
    exact this.imp fun h => by simpa using h
  exact (pm.trans p2.symm).eq_of_pairwise (fun a b _ _ h1 h2 => by omega) pw s2
/-- what shows a value's text -/
def rRepD (K : PySem.W.Frag) : List V → Hp → VK → Prop := fun xs H Q => ∃ (d : D) (x : V), xs = [x] ∧ Dp K H x d ∧ shwOk d = true ∧ Q (.str d.shown) H
def rStrD (K : PySem.W.Frag) : List V → Hp → VK → Prop := fun xs H Q => (∃ a, xs = [.str a] ∧ Q (.str a) H) ∨ ∃ (d : D) (x : V), xs = [x] ∧ Dp K H x d ∧ (∀ z, d ≠ .str z) ∧ shwOk d = true ∧ Q (.str d.shown) H
def rBlt (K : PySem.W.Frag) : Blt → List V → Hp → VK → Prop
  | .len => fun xs H Q => (∃ p ys, xs = [.ref p] ∧ (SqL K H p ys ∨ SqT K H p ys) ∧ Q (.int ys.length) H) ∨ ∃ z, xs = [.str z] ∧ z.length ≤ sizeLine ∧ Q (.int z.length) H
  | .abs => fun xs H Q => ∃ i, xs = [.int i] ∧ Q (.int (if i < 0 then -i else i)) H
  | .min => rMinE K
  | .max => rMax K
  | .sum => rSum K
  | .all => rAll K
  | .any => rAny K
  | .tuple => fun xs H Q => ∃ p ys, xs = [.ref p] ∧ ((SqL K H p ys ∧ ∀ l, H l = none → Q (.ref l) (upd H l (.tup ys))) ∨ (SqT K H p ys ∧ Q (.ref p) H))
  | .list => fun xs H Q => ∃ p ys, xs = [.ref p] ∧ (SqL K H p ys ∨ SqT K H p ys) ∧ ∀ l, H l = none → Q (.ref l) (upd H l (.lst ys))
  | .int => fun xs H Q => (∃ i, xs = [.int i] ∧ Q (.int i) H) ∨ ∃ k, xs = [.bl k] ∧ Q (.int (if k then 1 else 0)) H
  | .str => rStrD K
  | .repr => rRepD K
  | .sorted => rSrtE K
  | _ => fun _ _ _ => False
theorem sqT_len {a : Addr} {vs : List V} (s : SR K B σ ρ H Z F) (h : SqT K H a vs) : vs.length ≤ sizeLine := by
  rcases h with h | ⟨o, its, n, _, _, _, hz, vv⟩
  · exact s.gd a vs (.inr h)
  · have := vv.length
    simp only [Array.length_toList] at this
    omega
theorem blt_fin {b : Blt} {x : D} {v : V} {kx : Nat} {T : AS} (e : bltD b x = some d) (hb : bltOk b = true) (s : SR K B σ ρ H Z F) (o : Ow K H Z x kx v T) (hx : kx ≤ 1 ∨ b = .len) (hk : k ≤ 1) (q : Kn K B σ ρ H Z F d k Q) : rBlt K b [v] H Q := by
  have one : b ≠ .len → kx ≤ 1 := fun n => hx.elim id fun h => absurd h n
  have lenL : ∀ {l : List D}, x = .list l → ∃ p ys, v = .ref p ∧ H p = some (.lst ys) ∧ ys.length = l.length := by
    intro l e
    subst e
    cases kx with
    | zero =>
      obtain ⟨p, vs, rfl, hp, fp⟩ := seq_of_ow o (Nat.zero_le 1)
      exact ⟨p, vs, rfl, hp, fp.length.symm⟩
    | succ kx =>
      unfold Ow at o
      obtain ⟨p, vs, T', rfl, hp, _, ol, _⟩ := o
      exact ⟨p, vs, rfl, hp, (owL_len ol).symm⟩
  unfold bltD at e
  split at e
  · cases e
    obtain ⟨p, ys, rfl, hp, hl⟩ := lenL rfl
    exact .inl ⟨p, ys, rfl, .inl (.inl (.inl hp)), by rw [hl]; exact kn_int q s⟩
  · cases e
    obtain ⟨p, ys, rfl, hp, fp⟩ := tup_of_ow o
    exact .inl ⟨p, ys, rfl, .inr hp, by rw [← fp.length]; exact kn_int q s⟩
  · split at e
    · rename_i h
      cases e
      exact .inr ⟨_, by rw [ow_str o], fits_le h, kn_int q s⟩
    · cases e
  · cases e
    exact ⟨_, by rw [ow_int o], kn_int q s⟩
  · obtain ⟨ns, e1, e⟩ := Option.bind_eq_some_iff.mp e
    obtain ⟨m, e2, rfl⟩ := Option.map_eq_some_iff.mp e
    obtain ⟨p, vs, rfl, hp, fp⟩ := seq_of_ow o (one (by decide))
    obtain ⟨h1, h2, h3⟩ := minL_spec e2
    refine .inl ⟨p, ns, rfl, .inl (.inl (by rw [← fzL_ints fp e1]; exact hp)), h1, fun m' i1 i2 => ?_⟩
    have : m' = m := by have := h3 m' i1; have := i2 m h2; omega
    subst this
    exact kn_int q s
  · obtain ⟨ns, e1, e⟩ := Option.bind_eq_some_iff.mp e
    obtain ⟨m, e2, rfl⟩ := Option.map_eq_some_iff.mp e
    obtain ⟨p, vs, rfl, hp, fp⟩ := seq_of_ow o (one (by decide))
    obtain ⟨h1, h2, h3⟩ := maxL_spec e2
    refine ⟨p, ns, rfl, .inl (.inl (by rw [← fzL_ints fp e1]; exact hp)), h1, fun m' i1 i2 => ?_⟩
    have : m' = m := by have := h3 m' i1; have := i2 m h2; omega
    subst this
    exact kn_int q s
  · obtain ⟨ns, e1, rfl⟩ := Option.map_eq_some_iff.mp e
    obtain ⟨p, vs, rfl, hp, fp⟩ := seq_of_ow o (one (by decide))
    exact ⟨p, ns, rfl, .inl (.inl (by rw [← fzL_ints fp e1]; exact hp)), kn_int q s⟩
  · obtain ⟨ns, e1, rfl⟩ := Option.map_eq_some_iff.mp e
    obtain ⟨p, vs, rfl, hp, fp⟩ := seq_of_ow o (one (by decide))
    exact ⟨p, ns, rfl, .inl (.inl (by rw [← fzL_bools fp e1]; exact hp)), kn_bl q s⟩
  · obtain ⟨ns, e1, rfl⟩ := Option.map_eq_some_iff.mp e
    obtain ⟨p, vs, rfl, hp, fp⟩ := seq_of_ow o (one (by decide))
    exact ⟨p, ns, rfl, .inl (.inl (by rw [← fzL_bools fp e1]; exact hp)), kn_bl q s⟩
  · cases e
    obtain ⟨p, vs, rfl, hp, fp⟩ := seq_of_ow o (one (by decide))
    exact ⟨p, vs, rfl, .inl ⟨.inl (.inl hp), fun l n => kn_tup q s n fp (s.gd p vs (.inl (.inl hp)))⟩⟩
  · cases e
    obtain ⟨p, vs, rfl, hp, fp⟩ := tup_of_ow o
    exact ⟨p, vs, rfl, .inr ⟨hp, kn_tup0 q s fp hp⟩⟩
  · cases e
    obtain ⟨p, vs, rfl, hp, fp⟩ := seq_of_ow o (one (by decide))
    exact ⟨p, vs, rfl, .inl (.inl (.inl hp)), fun l n => kn_lst q s n fp (s.gd p vs (.inl (.inl hp))) hk⟩
  · cases e
    obtain ⟨p, vs, rfl, hp, fp⟩ := tup_of_ow o
    exact ⟨p, vs, rfl, .inr hp, fun l n => kn_lst q s n fp (sqT_len s hp) hk⟩
  · cases e
    exact .inl ⟨_, by rw [ow_int o], kn_int q s⟩
  · cases e
    exact .inr ⟨_, by rw [ow_bl o], kn_int q s⟩
  · split at e
    · cases e
      exact .inl ⟨_, by rw [ow_str o], kn_str q s⟩
    · rename_i hne
      split at e
      · rename_i hs
        cases e
        exact .inr ⟨_, v, rfl, o.dp, fun z h => hne z h, hs, kn_str q s⟩
      · cases e
  · split at e
    · rename_i hs
      cases e
      exact ⟨_, v, rfl, o.dp, hs, kn_str q s⟩
    · cases e
  · obtain ⟨ns, e1, rfl⟩ := Option.map_eq_some_iff.mp e
    obtain ⟨p, vs, rfl, hp, fp⟩ := seq_of_ow o (one (by decide))
    have hv := fzL_ints fp e1
    subst hv
    refine .inl ⟨p, ns, rfl, .inl (.inl hp), fun ns' l pm pw n => ?_⟩
    have es : ns' = srtI ns := srtI_uniq pm pw
    subst es
    refine kn_lst q s n (fzL_ofInts _) ?_ hk
    have := s.gd p _ (.inl (.inl hp))
    rw [List.length_map] at this ⊢
    rw [pm.length_eq]
    exact this
  · obtain ⟨ns, e1, rfl⟩ := Option.map_eq_some_iff.mp e
    obtain ⟨p, vs, rfl, hp, fp⟩ := tup_of_ow o
    have hv := fzL_ints fp e1
    subst hv
    refine .inr ⟨p, ns, rfl, hp, fun ns' l pm pw n => ?_⟩
    have es : ns' = srtI ns := srtI_uniq pm pw
    subst es
    refine kn_lst q s n (fzL_ofInts _) ?_ hk
    have := sqT_len s hp
    rw [List.length_map] at this ⊢
    rw [pm.length_eq]
    exact this
  · obtain ⟨ns, e1, e⟩ := Option.bind_eq_some_iff.mp e
    obtain ⟨m, e2, rfl⟩ := Option.map_eq_some_iff.mp e
    obtain ⟨p, vs, rfl, hp, fp⟩ := tup_of_ow o
    obtain ⟨h1, h2, h3⟩ := minL_spec e2
    refine .inr ⟨p, ns, rfl, by rw [← fzL_ints fp e1]; exact hp, h1, fun m' i1 i2 => ?_⟩
    have : m' = m := by have := h3 m' i1; have := i2 m h2; omega
    subst this
    exact kn_int q s
  · cases e
end
section
variable {X : Cx} {B : Bk} {C : Calls} {G : Nat → D} {k : Nat} {pos : Pos} {ea eb ec : Ex} {a b c : Expr}
theorem opnd1 {e : Ex} (he : PE X a (spE X.K B C G e 0)) (hv : ∀ i, e = .var i → ∃ x pos, a = .Name x pos ∧ X.N[i]? = some x ∧ Vis X.env.scope x ∧ (x == ("__debug__" : Str)) = false ∧ (x == ("__classdict__" : Str)) = false) (hp : ∀ i p, e ≠ .pth i p) : PE X a (spU X.K B (o1X C G e)) := by
  by_cases h : ∃ i, e = .var i
  · obtain ⟨i, rfl⟩ := h
    obtain ⟨x, pos, rfl, hN, hV, hd, hcd⟩ := hv i rfl
    refine (pe_var hN hV hd hcd).imp fun σ H Q ⟨ρ, Z, F, p, ρ', s, e, q⟩ => ?_
    simp only [op1] at e
    obtain ⟨⟨kk, dd⟩, e1, e⟩ := Option.bind_eq_some_iff.mp e
    cases e
    obtain ⟨v, ev, o⟩ := s.view e1
    exact ⟨v, ev, q v H Z F _ s Ps.refl o⟩
  · refine he.imp fun σ H Q ⟨ρ, Z, F, p, ρ', s, e', q⟩ => ?_
    have e2 : (evE C G e ρ).bind (fun p => some ((0, p.1), p.2)) = some (p, ρ') := by
      rw [← e']
      show _ = op1 e (evE C G e) ρ
      unfold op1
      split
      · exact absurd ⟨_, rfl⟩ h
      · exact absurd rfl (hp _ _)
      · rfl
    obtain ⟨⟨d, ρ2⟩, h2, e2⟩ := Option.bind_eq_some_iff.mp e2
    cases e2
    exact ⟨ρ, Z, F, d, _, s, h2, fun v H' Z' F' T s' r o => q v H' Z' F' T s' r.ps o⟩
theorem shw_parts {d : D} (h : shwOk d = true) : d.showable = true ∧ d.hasDict = false ∧ d.depth < 60 ∧ d.shown.length ≤ sizeLine := by
  unfold shwOk at h
  simp only [Bool.and_eq_true, Bool.not_eq_true', decide_eq_true_eq] at h
  obtain ⟨⟨⟨h1, h2⟩, h3⟩, h4⟩ := h
  exact ⟨h1, h2, h3, by
    unfold fits at h4
    exact of_decide_eq_true h4⟩
theorem call_repD (hg : X.A.guards = some []) (hu : X.A.units + 65 < cLine) : CallR X (.builtin "repr") (rRepD X.K) := by
  intro pins s σ H xs us Q I r h
  obtain ⟨d, x, rfl, dp, hs, q⟩ := h
  obtain ⟨u, rfl, r1⟩ := vals1 r
  obtain ⟨h1, h2, h3, h4⟩ := shw_parts hs
  obtain ⟨as, rd⟩ := Dp.reads I d x u dp r1
  have fin : ∀ (h' : Heap) (t : Tok) (tk : Tok), (∀ b o, s.heap.get? b = some o → h'.get? b = some o) → EP X pins σ Q (.str d.shown t) { s with heap := h', toks := tk } := fun h' t tk hk => ⟨.str _, H, I.kept (t' := tk) fun b o e => hk b o e, ⟨t, rfl⟩, q⟩
  cases rd with
  | none => exact PySem.P.repr_of_none (fin _ _ _ fun _ _ e => e)
  | bool b => exact PySem.P.repr_of_bool (fin _ _ _ fun _ _ e => e)
  | int i t => exact PySem.P.repr_of_int (by simpa [PyData.showable] using h1) (fin _ _ _ fun _ _ e => e)
  | str z t => exact PySem.P.repr_of_str (fin _ _ _ fun _ _ e => e) (by simpa only [PyData.shown] using h4)
  | list e1 e2 e3 e4 => exact repr_of_reads' (.list e1 e2 e3 e4) h1 (fun e => by rw [h2] at e; cases e) hg (by omega) (fun _ _ e => e) (fun h' t tk hk => fin h' t tk hk) h4
  | tuple e1 e2 e3 e4 => exact repr_of_reads' (.tuple e1 e2 e3 e4) h1 (fun e => by rw [h2] at e; cases e) hg (by omega) (fun _ _ e => e) (fun h' t tk hk => fin h' t tk hk) h4
  | dict e1 e2 e3 e4 e5 => cases h2
theorem call_strD (hg : X.A.guards = some []) (hu : X.A.units + 65 < cLine) : CallR X (.type "str") (rStrD X.K) := by
  intro pins s σ H xs us Q I r h
  rcases h with ⟨a, rfl, q⟩ | ⟨d, x, rfl, dp, hns, hs, q⟩
  · obtain ⟨u, rfl, t, rfl⟩ := vals1 r
    exact PySem.P.str_of_str ⟨.str a, H, I, ⟨t, rfl⟩, q⟩
  obtain ⟨u, rfl, r1⟩ := vals1 r
  obtain ⟨h1, h2, h3, h4⟩ := shw_parts hs
  obtain ⟨as, rd⟩ := Dp.reads I d x u dp r1
  have fin : ∀ (h' : Heap) (t : Tok) (tk : Tok), (∀ b o, s.heap.get? b = some o → h'.get? b = some o) → EP X pins σ Q (.str d.shown t) { s with heap := h', toks := tk } := fun h' t tk hk => ⟨.str _, H, I.kept (t' := tk) fun b o e => hk b o e, ⟨t, rfl⟩, q⟩
  cases rd with
  | none => exact PySem.P.str_of_none (fin _ _ _ fun _ _ e => e)
  | bool b => exact PySem.P.str_of_bool (fin _ _ _ fun _ _ e => e)
  | int i t => exact PySem.P.str_of_int (by simpa [PyData.showable] using h1) (fin _ _ _ fun _ _ e => e)
  | str z t => exact absurd rfl (hns z)
  | list e1 e2 e3 e4 => exact str_of_reads (.list e1 e2 e3 e4) h1 (fun e => by rw [h2] at e; cases e) hg (by omega) (fun _ _ e => e) (fun h' t tk hk => fin h' t tk hk) h4
  | tuple e1 e2 e3 e4 => exact str_of_reads (.tuple e1 e2 e3 e4) h1 (fun e => by rw [h2] at e; cases e) hg (by omega) (fun _ _ e => e) (fun h' t tk hk => fin h' t tk hk) h4
  | dict e1 e2 e3 e4 e5 => cases h2
theorem callr_blt (hg : X.A.guards = some []) (hu : X.A.units + 65 < cLine) (hc : X.calm = true) (b : Blt) (hb : bltOk b = true) : CallR X (if bltIsTy b = true then .type (bltId b) else .builtin (bltId b)) (rBlt X.K b) := by
  cases b with
  | len => exact callr_or call_len_seq call_len_str
  | abs => exact call_abs
  | min => exact cr_minE hc
  | max => exact cr_max hc
  | sum => exact cr_sum hc
  | all => exact cr_all hc
  | any => exact cr_any hc
  | tuple => exact call_tuple_of
  | list => exact call_list_of
  | int => exact call_int1
  | str => exact call_strD hg hu
  | repr => exact call_repD hg hu
  | sorted => exact cr_srtE
  | _ => cases hb
theorem s_blt {p : Pos} {b : Blt} (hgd : X.A.guards = some []) (hu : X.A.units + 65 < cLine) (hc : X.calm = true) (hb : bltOk b = true) (hg : Gl X (bltN b)) (hm : X.mg (bltN b) = none) (ha : PE X a (spU X.K B (o1X C G ea))) (hs : starEach [a] X.env = (false, eval a X.env) :: starEach [] X.env) (hk : k ≤ 1) :
    PE X (.Call (.Name (bltN b) p) [a] [] pos) (spE X.K B C G (.blt b ea) k) := by
  have fin : ∀ σ H Q, spE X.K B C G (.blt b ea) k σ H Q → tCB (rBlt X.K b) (tCons (spU X.K B (o1X C G ea)) tNil) σ H Q := fun σ H Q ⟨ρ, Z, F, d, ρ', s, e, q⟩ => by
    simp only [evE] at e
    obtain ⟨⟨⟨k1, x⟩, ρ1⟩, e1, e⟩ := Option.bind_eq_some_iff.mp e
    dsimp only at e
    split at e
    · rename_i hx
      obtain ⟨z, e2, e⟩ := Option.bind_eq_some_iff.mp e
      cases e
      exact ⟨ρ, Z, F, (k1, x), _, s, e1, fun v H' Z' F' T s' ps w => blt_fin e2 hb s' w hx hk (q.pre ps)⟩
    · cases e
  have cr := callr_blt hgd hu hc b hb
  cases hy : bltIsTy b with
  | true =>
    rw [hy, if_pos rfl] at cr
    refine (pe_callTy cr hg hm ?_ (pa_cons ha pa_nil hs) ?_ ?_ hs).imp fin
    · cases b <;> first | exact absurd hy (by decide) | exact absurd hb (by decide) | decide +kernel
    · cases b <;> first | exact absurd hy (by decide) | exact absurd hb (by decide) | decide
    · cases b <;> first | exact absurd hy (by decide) | exact absurd hb (by decide) | decide
  | false =>
    rw [hy, if_neg (by decide)] at cr
    refine (pe_callB cr hg hm ?_ (pa_cons ha pa_nil hs) ?_ ?_ hs).imp fin
    · cases b <;> first | exact absurd hy (by decide) | exact absurd hb (by decide) | decide +kernel
    · cases b <;> first | exact absurd hy (by decide) | exact absurd hb (by decide) | decide
    · cases b <;> first | exact absurd hy (by decide) | exact absurd hb (by decide) | decide
def blt2N : Blt2 → Str
  | .min => "min" | .max => "max"
theorem s_blt2 {p : Pos} {t : Blt2} (hc : X.calm = true) (hg : Gl X (blt2N t)) (hm : X.mg (blt2N t) = none) (ha : PE X a (spE X.K B C G ea 0)) (hb : PE X b (spE X.K B C G eb 0)) (hs : starEach [a, b] X.env = (false, eval a X.env) :: starEach [b] X.env) (hs2 : starEach [b] X.env = (false, eval b X.env) :: starEach [] X.env) :
    PE X (.Call (.Name (blt2N t) p) [a, b] [] pos) (spE X.K B C G (.blt2 t ea eb) k) := by
  have pl : (backTo pos (starEach [b] X.env)).any (·.1) = false := by rw [hs2]; rfl
  have fin : ∀ σ H Q, spE X.K B C G (.blt2 t ea eb) k σ H Q → tCB (fun xs H Q => ∃ i j z, xs = [.int i, .int j] ∧ blt2D t (.int i) (.int j) = some (.int z) ∧ Q (.int z) H) (tCons (spE X.K B C G ea 0) (tCons (spE X.K B C G eb 0) tNil)) σ H Q := fun σ H Q ⟨ρ, Z, F, d, ρ', s, e, q⟩ => by
    simp only [evE] at e
    obtain ⟨⟨x, ρ1⟩, e1, e⟩ := Option.bind_eq_some_iff.mp e
    obtain ⟨⟨y, ρ2⟩, e2, e⟩ := Option.bind_eq_some_iff.mp e
    obtain ⟨z, e3, e⟩ := Option.bind_eq_some_iff.mp e
    cases e
    refine ⟨ρ, Z, F, x, ρ1, s, e1, fun v H1 Z1 F1 T1 s1 r1 o1 => ⟨ρ1, Z1, F1, y, _, s1, e2, fun w H2 Z2 F2 T2 s2 r2 o2 => ?_⟩⟩
    have ps := r1.ps.trans r2.ps
    have key : ∃ i j z', x = PyData.int i ∧ y = PyData.int j ∧ d = PyData.int z' := by
      dsimp only at e3
      cases t <;> cases x <;> first
        | (cases e3; done)
        | (cases y <;> first | (cases e3; exact ⟨_, _, _, rfl, rfl, rfl⟩) | (cases e3; done))
    obtain ⟨i, j, z', rfl, rfl, rfl⟩ := key
    exact ⟨i, j, _, by rw [ow_int o1, ow_int o2], e3, kn_int (q.pre ps) s2⟩
  cases t with
  | min =>
    refine (pe_callB (id := "min") (r := fun xs H Q => ∃ i j z, xs = [.int i, .int j] ∧ blt2D .min (.int i) (.int j) = some (.int z) ∧ Q (.int z) H) ?_ hg hm (by decide +kernel) (pa_cons ha (pa_cons hb pa_nil hs2) hs) (by decide) (by decide) hs pl).imp fin
    intro pins s σ H xs us Q I r ⟨i, j, z, e1, e2, q⟩
    cases e2
    exact call_min2 hc pins s σ H xs us Q I r ⟨i, j, e1, q⟩
  | max =>
    refine (pe_callB (id := "max") (r := fun xs H Q => ∃ i j z, xs = [.int i, .int j] ∧ blt2D .max (.int i) (.int j) = some (.int z) ∧ Q (.int z) H) ?_ hg hm (by decide +kernel) (pa_cons ha (pa_cons hb pa_nil hs2) hs) (by decide) (by decide) hs pl).imp fin
    intro pins s σ H xs us Q I r ⟨i, j, z, e1, e2, q⟩
    cases e2
    exact call_max2 hc pins s σ H xs us Q I r ⟨i, j, e1, q⟩
theorem fzL_ints' {K : PySem.W.Frag} {H : Hp} {Z : AS} : ∀ (ns : List Int), FzL K H Z (ns.map PyData.int) (ns.map V.int)
  | [] => rfl
  | i :: r => ⟨.int i, r.map V.int, rfl, rfl, fzL_ints' r⟩
theorem rng_le {n : Int} (h : rngOk n = true) : -16777216 ≤ n ∧ n ≤ 16777216 := of_decide_eq_true h
theorem owL_ints {K : PySem.W.Frag} {H : Hp} {Z : AS} : ∀ (ns : List Int) (k : Nat), OwL K H Z (ns.map PyData.int) k (ns.map V.int) (fun _ => False)
  | [], _ => ⟨rfl, fun _ z => z⟩
  | i :: r, k => by
    show OwL K H Z (.int i :: r.map PyData.int) k (.int i :: r.map V.int) _
    unfold OwL
    exact ⟨.int i, r.map V.int, fun _ => False, fun _ => False, rfl, ⟨rfl, fun _ z => z⟩, owL_ints r k, fun _ z => z.elim, fun a => by simp⟩
theorem s_lrng {p p2 pos2 : Pos} (hc : X.calm = true) (hg : Gl X "list") (hm : X.mg "list" = none) (hg2 : Gl X "range") (hm2 : X.mg "range" = none) (ha : PE X a (spE X.K B C G ea 0)) (hs : starEach [a] X.env = (false, eval a X.env) :: starEach [] X.env) :
    PE X (.Call (.Name "list" p) [.Call (.Name "range" p2) [a] [] pos2] [] pos) (spE X.K B C G (.lrng ea) k) :=
  (pe_listRg hc hg hm (prg_1 hg2 hm2 ha hs)).imp fun σ H Q ⟨ρ, Z, F, d, ρ', s, e, q⟩ => by
    simp only [evE] at e
    obtain ⟨⟨x, ρ1⟩, e1, e⟩ := Option.bind_eq_some_iff.mp e
    obtain ⟨n, e2, e⟩ := Option.bind_eq_some_iff.mp e
    split at e
    · rename_i h
      cases e
      cases x <;> cases e2
      have h' := rng_le h
      refine ⟨ρ, Z, F, _, _, s, e1, fun v H' Z' F' T s' r w => ⟨n, ow_int w, ?_⟩⟩
      refine ⟨⟨by omega, by omega, by omega, by omega, by omega⟩, fun p np => ?_⟩
      have e4 : upTo 0 n.toNat = ((List.range n.toNat).map fun (i : Nat) => (0 : Int) + (i : Nat)).map PyData.int := by
        unfold upTo
        rw [List.map_map]
        rfl
      have e5 : rgV 0 n = ((List.range n.toNat).map fun (i : Nat) => (0 : Int) + (i : Nat)).map V.int := by
        unfold rgV
        rw [List.map_map, Int.sub_zero]
        rfl
      rw [e5]
      refine kn_lstK (j := k) (q.pre r.ps) s' np (by rw [e4]; exact owL_ints _ k) Tm.none (fun _ z => z.elim) ?_ (Nat.le_succ k)
      rw [List.length_map, List.length_map, List.length_range]
      have : sizeLine = 16777216 := rfl
      omega
    · cases e
theorem s_trng {p p2 pos2 : Pos} (hc : X.calm = true) (hg : Gl X "tuple") (hm : X.mg "tuple" = none) (hg2 : Gl X "range") (hm2 : X.mg "range" = none) (ha : PE X a (spE X.K B C G ea 0)) (hs : starEach [a] X.env = (false, eval a X.env) :: starEach [] X.env) :
    PE X (.Call (.Name "tuple" p) [.Call (.Name "range" p2) [a] [] pos2] [] pos) (spE X.K B C G (.trng ea) k) :=
  (pe_tupRg hc hg hm (prg_1 hg2 hm2 ha hs)).imp fun σ H Q ⟨ρ, Z, F, d, ρ', s, e, q⟩ => by
    simp only [evE] at e
    obtain ⟨⟨x, ρ1⟩, e1, e⟩ := Option.bind_eq_some_iff.mp e
    obtain ⟨n, e2, e⟩ := Option.bind_eq_some_iff.mp e
    split at e
    · rename_i h
      cases e
      cases x <;> cases e2
      have h' := rng_le h
      refine ⟨ρ, Z, F, _, _, s, e1, fun v H' Z' F' T s' r w => ⟨n, ow_int w, ?_⟩⟩
      refine ⟨⟨by omega, by omega, by omega, by omega, by omega⟩, fun p np => ?_⟩
      have e4 : upTo 0 n.toNat = ((List.range n.toNat).map fun (i : Nat) => (0 : Int) + (i : Nat)).map PyData.int := by
        unfold upTo
        rw [List.map_map]
        rfl
      have e5 : rgV 0 n = ((List.range n.toNat).map fun (i : Nat) => (0 : Int) + (i : Nat)).map V.int := by
        unfold rgV
        rw [List.map_map, Int.sub_zero]
        rfl
      rw [e5]
      refine kn_tup (q.pre r.ps) s' np (by rw [e4]; exact fzL_ints' _) ?_
      rw [List.length_map, List.length_map, List.length_range]
      have : sizeLine = 16777216 := rfl
      omega
    · cases e
end
end
end BW

/-! BwE9: isinstance, what is walked, comprehensions. -/
namespace BW
noncomputable section
open PySem PySem.Spec PyProof.Rows L2
/-! ### isinstance -/
def tyS : Ty → String
  | .int => "int" | .bool => "bool" | .str => "str" | .list => "list" | .tuple => "tuple"
def tyN : Ty → Str
  | .int => "int" | .bool => "bool" | .str => "str" | .list => "list" | .tuple => "tuple"
def dN : D → String
  | .none => "NoneType" | .bool _ => "bool" | .int _ => "int" | .str _ => "str" | .list _ => "list" | .tuple _ => "tuple" | .dict _ => "dict"
theorem ow_ty {K : PySem.W.Frag} {H : Hp} {Z : AS} {d : D} {k : Nat} {v : V} {T : AS} (h : Ow K H Z d k v T) : TyX K H v (.type (dN d)) := by
  cases d with
  | none => cases h.1; exact .base .non
  | bool b => cases h.1; exact .base (.bl b)
  | int b => cases h.1; exact .base (.int b)
  | str b => cases h.1; exact .base (.str b)
  | list l =>
    cases k with
    | zero =>
      obtain ⟨a, vs, rfl, hp, _⟩ := seq_of_ow h (Nat.zero_le 1)
      exact .base (.lst hp)
    | succ k =>
      unfold Ow at h
      obtain ⟨a, vs, T', rfl, hp, _⟩ := h
      exact .base (.lst hp)
  | tuple l =>
    obtain ⟨a, vs, rfl, hp, _⟩ := tup_of_ow h
    rcases hp with (hp | ⟨o, hp⟩) | ⟨o, its, n, e, c, _⟩
    · exact .base (.tup hp)
    · exact .fTuple hp
    · exact .kTuple e c
  | dict _ => unfold Ow at h; exact h.elim
theorem kit_tab (t : Ty) (s : String) (h : s = "NoneType" ∨ s = "bool" ∨ s = "int" ∨ s = "str" ∨ s = "list" ∨ s = "tuple") : kitB s (tyS t) = some (match t with
    | .int => s == "int" || s == "bool"
    | .bool => s == "bool"
    | .str => s == "str"
    | .list => s == "list"
    | .tuple => s == "tuple") := by
  rcases h with rfl | rfl | rfl | rfl | rfl | rfl <;> cases t <;> decide +kernel
theorem kit_d {K : PySem.W.Frag} {d : D} (t : Ty) (h : ∀ l, d ≠ .dict l) : PySem.W.kitOne K (.type (dN d)) (.type (tyS t)) = some (isTy t d) := by
  have e : kitB (dN d) (tyS t) = some (isTy t d) := by
    cases d with
    | dict l => exact absurd rfl (h l)
    | none => rw [kit_tab t _ (by simp [dN])]; cases t <;> rfl
    | bool b => rw [kit_tab t _ (by simp [dN])]; cases t <;> rfl
    | int b => rw [kit_tab t _ (by simp [dN])]; cases t <;> rfl
    | str b => rw [kit_tab t _ (by simp [dN])]; cases t <;> rfl
    | list b => rw [kit_tab t _ (by simp [dN])]; cases t <;> rfl
    | tuple b => rw [kit_tab t _ (by simp [dN])]; cases t <;> rfl
  exact kit_ty e
theorem kit_any {K : PySem.W.Frag} {d : D} (h : ∀ l, d ≠ .dict l) : ∀ ts : List Ty, PySem.W.kitAny K (.type (dN d)) (ts.map fun t => .type (tyS t)) = some (ts.any fun t => isTy t d)
  | [] => rfl
  | t :: ts => by
    rw [List.map_cons]
    refine kitAny_cons (kit_d t h) (fun e => ?_) fun e => ?_
    · rw [kit_any h ts, List.any_cons, e, Bool.false_or]
    · rw [List.any_cons, e, Bool.true_or]
section
variable {X : Cx} {B : Bk} {C : Calls} {G : Nat → D} {k : Nat} {pos : Pos} {ea eb ec : Ex} {a b c : Expr}
theorem p_ty {t : Ty} {p : Pos} (hg : Gl X (tyN t)) (hm : X.mg (tyN t) = none) : PE X (.Name (tyN t) p) (tC (.ty (tyS t))) := by
  refine pe_bltn (u := .type (tyS t)) hg hm ?_ rfl ?_ ?_
  · cases t <;> decide +kernel
  · cases t <;> decide
  · cases t <;> decide
theorem s_isi1 {t : Ty} {p p2 : Pos} (hg : Gl X "isinstance") (hm : X.mg "isinstance" = none) (hg2 : Gl X (tyN t)) (hm2 : X.mg (tyN t) = none) (ha : PE X a (spU X.K B (o1X C G ea))) (hs : starEach [a, .Name (tyN t) p2] X.env = (false, eval a X.env) :: starEach [.Name (tyN t) p2] X.env) :
    PE X (.Call (.Name "isinstance" p) [a, .Name (tyN t) p2] [] pos) (spE X.K B C G (.isi ea [t] true) k) :=
  (pe_callB call_isi hg hm (by decide +kernel) (pa_cons ha (pa_cons (p_ty hg2 hm2) pa_nil) hs) (by decide) (by decide) hs).imp fun σ H Q ⟨ρ, Z, F, d, ρ', s, e, q⟩ => by
    simp only [evE] at e
    obtain ⟨⟨⟨k1, x⟩, ρ1⟩, e1, e⟩ := Option.bind_eq_some_iff.mp e
    cases e
    refine ⟨ρ, Z, F, (k1, x), _, s, e1, fun v H' Z' F' T s' ps w => ?_⟩
    have nd : ∀ l, x ≠ .dict l := fun l e => by subst e; unfold Ow at w; exact w
    refine ⟨v, .ty (tyS t), .type (dN x), .type (tyS t), isTy t x, rfl, .ty _, ow_ty w, kit_d t nd, ?_⟩
    have q' := kn_bl (q.pre ps) s'
    simp only [List.any_cons, List.any_nil, Bool.or_false] at q'
    exact q'
def tyNames (ts : List Ty) (ps : List Pos) : List Expr := List.zipWith (fun t p => .Name (tyN t) p) ts ps
theorem pa_tys : ∀ {ts : List Ty} {ps : List Pos}, (∀ t ∈ ts, Gl X (tyN t) ∧ X.mg (tyN t) = none) → ts.length = ps.length → PA X (tyNames ts ps) (fun σ H Q => Q (ts.map fun t => .ty (tyS t)) H)
  | [], [], _, _ => pa_nil
  | [], _ :: _, _, h => by cases h
  | _ :: _, [], _, h => by cases h
  | t :: ts, p :: ps, h, hl => (pa_cons (p_ty (h t (List.mem_cons_self ..)).1 (h t (List.mem_cons_self ..)).2) (pa_tys (fun t ht => h t (List.mem_cons_of_mem _ ht)) (Nat.succ.inj hl)) rfl).imp fun σ H Q q => q
theorem s_isiT {ts : List Ty} {ps : List Pos} {p p2 : Pos} {n : Nat} (hg : Gl X "isinstance") (hm : X.mg "isinstance" = none) (hg2 : ∀ t ∈ ts, Gl X (tyN t) ∧ X.mg (tyN t) = none) (hl : ts.length = ps.length) (hz : ts.length ≤ 1000) (ha : PE X a (spU X.K B (o1X C G ea)))
    (hs : starEach [a, .Tuple (tyNames ts ps) n p2] X.env = (false, eval a X.env) :: starEach [.Tuple (tyNames ts ps) n p2] X.env) :
    PE X (.Call (.Name "isinstance" p) [a, .Tuple (tyNames ts ps) n p2] [] pos) (spE X.K B C G (.isi ea ts false) k) :=
  (pe_callB call_isiT hg hm (by decide +kernel) (pa_cons ha (pa_cons (pe_tup (pa_tys hg2 hl)) pa_nil) hs) (by decide) (by decide) hs).imp fun σ H Q ⟨ρ, Z, F, d, ρ', s, e, q⟩ => by
    simp only [evE] at e
    obtain ⟨⟨⟨k1, x⟩, ρ1⟩, e1, e⟩ := Option.bind_eq_some_iff.mp e
    cases e
    refine ⟨ρ, Z, F, (k1, x), _, s, e1, fun v H' Z' F' T s' ps w => ?_⟩
    refine ⟨by rw [List.length_map]; exact Nat.le_trans hz (by decide), fun tp np => ?_⟩
    have nd : ∀ l, x ≠ .dict l := fun l e => by subst e; unfold Ow at w; exact w
    have w' := w.mono (Z' := Z') (fun _ z => z) (H' := upd H' tp (.tup (ts.map fun t => .ty (tyS t)))) fun a o e _ => keep_upd np a o e
    have hp : ∀ ts : List Ty, Paired ClsV (ts.map fun t => V.ty (tyS t)) (ts.map fun t => Value.type (tyS t)) := fun ts => by
      induction ts with
      | nil => exact .nil
      | cons t ts ih => exact .cons (.ty _) ih
    refine ⟨v, tp, _, .type (dN x), _, ts.any fun t => isTy t x, rfl, upd_same, hp ts, ow_ty w', kit_any nd ts, ?_⟩
    obtain ⟨s2, r2, _⟩ := new_tup (l := []) (vs := []) s' np rfl (Nat.zero_le _) 0
    have g : Good (upd H' tp (.tup (ts.map fun t => V.ty (tyS t)))) := s'.gd.tup (by rw [List.length_map]; exact Nat.le_trans hz (by decide))
    have s3 : SR X.K B σ _ (upd H' tp (.tup (ts.map fun t => V.ty (tyS t)))) Z' F' := s'.more (keep_upd np) (fun _ z => z) s'.nz (fun a z => let ⟨o, e⟩ := s'.zt a z; ⟨o, keep_upd np _ _ e⟩) g
    exact kn_bl (q.pre (ps.trans (Ps.new np))) s3
/-! ### what is walked -/
def Kp (H : Hp) (Z : AS) (H' : Hp) : Prop := ∀ a o, H a = some o → (Z a ∨ ∀ xs, o ≠ .lst xs) → H' a = some o
theorem ps_kp {K : PySem.W.Frag} {B : Bk} {σ : L2.St} {ρ : Env} {H H' : Hp} {Z Z' : AS} {F F' : FS} (s : SR K B σ ρ H Z F) (p : Ps H Z F H' Z' F') : Kp H Z H' := fun a o e h => p.keep a o e fun j z => by
  rcases h with h | h
  · exact s.nz j a z h
  · obtain ⟨vs, e'⟩ := s.mu j a z
    rw [e] at e'
    cases e'
    exact h vs rfl
/-- the items are there, one by one -/
structure Wk (K : PySem.W.Frag) (J : L2.It) (ds : List D) (H : Hp) (Z : AS) : Prop where
  len : ds.length ≤ sizeLine
  stop : ∀ {H' : Hp}, Kp H Z H' → J.stop ds.length H'
  go : ∀ {B : Bk} {σ : L2.St} {ρ : Env} {H' : Hp} {Z' : AS} {F' : FS}, SR K B σ ρ H' Z' F' → Kp H Z H' → (∀ a, Z a → Z' a) → ∀ i (hi : i < ds.length), J.go i H' ∧
    ∀ x H2, J.yld i H' x H2 → SR K B σ ρ H2 Z' F' ∧ Ps H' Z' F' H2 Z' F' ∧ Fz K H2 Z' ds[i] x
def spI (K : PySem.W.Frag) (B : Bk) (f : Env → Option (List D × Env)) : TI := fun σ H R => ∃ ρ Z F ds ρ', SR K B σ ρ H Z F ∧ f ρ = some (ds, ρ') ∧
  ∀ J H' Z' F', SR K B σ ρ' H' Z' F' → Ps H Z F H' Z' F' → Wk K J ds H' Z' → R J H'
theorem _root_.L2.PI.imp {X : Cx} {tg e : Expr} {t t' : TI} (h : PI X tg e t) (f : ∀ σ H R, t' σ H R → t σ H R) : PI X tg e t' := ⟨fun pins s σ H R I q => h.run pins s σ H R I (f _ _ _ q)⟩
theorem wk_rng {K : PySem.W.Frag} {H : Hp} {Z : AS} {lo : Int} {n : Nat} (h : n ≤ sizeLine) : Wk K (Itr lo n) (upTo lo n) H Z where
  len := by unfold upTo; rw [List.length_map, List.length_range]; exact h
  stop := fun _ => by
    show n ≤ (upTo lo n).length
    unfold upTo
    rw [List.length_map, List.length_range]
    exact Nat.le_refl _
  go := fun {B σ ρ H' Z' F'} s p _ i hi => by
    have hi' : i < n := by
      unfold upTo at hi
      rw [List.length_map, List.length_range] at hi
      exact hi
    refine ⟨hi', fun x H2 y => ?_⟩
    obtain ⟨rfl, rfl⟩ := y
    refine ⟨s, Ps.refl, ?_⟩
    have e : (upTo lo n)[i] = .int (lo + i) := by
      apply Option.some.inj
      rw [← List.getElem?_eq_getElem hi]
      unfold upTo
      rw [List.getElem?_map, List.getElem?_range hi']
      rfl
    rw [e]
    rfl
theorem wk_lst {K : PySem.W.Frag} {H : Hp} {Z : AS} {a : Addr} {vs : List V} {ds : List D} (h : H a = some (.lst vs)) (z : Z a) (f : FzL K H Z ds vs) (hl : vs.length ≤ sizeLine) : Wk K (Itl K a) ds H Z where
  len := by rw [f.length]; exact hl
  stop := fun k => ⟨vs, .inl (.inl (k a _ h (.inl z))), by rw [f.length]; exact Nat.le_refl _⟩
  go := fun {B σ ρ H' Z' F'} s k zz i hi => by
    have h' := k a _ h (.inl z)
    have f' : FzL K H' Z' ds vs := f.mono k zz
    obtain ⟨v, e, fv⟩ := f'.get (List.getElem?_eq_getElem hi)
    refine ⟨⟨vs, v, .inl (.inl h'), e⟩, fun x H2 y => ?_⟩
    obtain ⟨rfl, y⟩ := y
    have := y vs (.inl (.inl h'))
    rw [e] at this
    cases this
    exact ⟨s, Ps.refl, fv⟩
theorem wk_tup {K : PySem.W.Frag} {H : Hp} {Z : AS} {a : Addr} {vs : List V} {ds : List D} (h : SqT K H a vs) (f : FzL K H Z ds vs) (hl : vs.length ≤ sizeLine) : Wk K (Itt K a) ds H Z where
  len := by rw [f.length]; exact hl
  stop := fun k => ⟨vs, sqT_mono h fun b o e n => k b o e (.inr n), by rw [f.length]; exact Nat.le_refl _⟩
  go := fun {B σ ρ H' Z' F'} s k zz i hi => by
    have h' : SqT K H' a vs := sqT_mono h fun b o e n => k b o e (.inr n)
    have f' : FzL K H' Z' ds vs := f.mono k zz
    obtain ⟨v, e, fv⟩ := f'.get (List.getElem?_eq_getElem hi)
    refine ⟨⟨vs, v, h', e⟩, fun x H2 y => ?_⟩
    obtain ⟨rfl, y⟩ := y
    have := y vs h'
    rw [e] at this
    cases this
    exact ⟨s, Ps.refl, fv⟩
theorem i_rng {p : Pos} {tg : Expr} (hg : Gl X "range") (hm : X.mg "range" = none) (ha : PE X a (spE X.K B C G ea 0)) (hs : starEach [a] X.env = [(false, eval a X.env)]) : PI X tg (.Call (.Name "range" p) [a] [] pos) (spI X.K B (evI C G (.rng ea))) :=
  (pi_range1 hg hm (pa_cons ha pa_nil (by rw [hs]; rfl)) hs).imp fun σ H R ⟨ρ, Z, F, ds, ρ', s, e, q⟩ => by
    simp only [evI] at e
    obtain ⟨⟨x, ρ1⟩, e1, e⟩ := Option.bind_eq_some_iff.mp e
    obtain ⟨n, e2, e⟩ := Option.bind_eq_some_iff.mp e
    split at e
    · rename_i h
      cases e
      cases x <;> cases e2
      have h' := rng_le h
      refine ⟨ρ, Z, F, _, _, s, e1, fun v H' Z' F' T s' r w => ⟨n, by rw [ow_int w], by omega, by omega, ?_⟩⟩
      exact q _ H' Z' F' s' r.ps (wk_rng (by have : sizeLine = 16777216 := rfl; omega))
    · cases e
theorem i_rng2 {p : Pos} {tg : Expr} (hg : Gl X "range") (hm : X.mg "range" = none) (ha : PE X a (spE X.K B C G ea 0)) (hb : PE X b (spE X.K B C G eb 0)) (hs : starEach [a, b] X.env = [(false, eval a X.env), (false, eval b X.env)]) (hs2 : starEach [b] X.env = [(false, eval b X.env)]) :
    PI X tg (.Call (.Name "range" p) [a, b] [] pos) (spI X.K B (evI C G (.rng2 ea eb))) :=
  (pi_range2 hg hm (pa_cons ha (pa_cons hb pa_nil (by rw [hs2]; rfl)) (by rw [hs, hs2])) hs hs2).imp fun σ H R ⟨ρ, Z, F, ds, ρ', s, e, q⟩ => by
    simp only [evI] at e
    obtain ⟨⟨x, ρ1⟩, e1, e⟩ := Option.bind_eq_some_iff.mp e
    obtain ⟨m, e2, e⟩ := Option.bind_eq_some_iff.mp e
    obtain ⟨⟨y, ρ2⟩, e3, e⟩ := Option.bind_eq_some_iff.mp e
    obtain ⟨n, e4, e⟩ := Option.bind_eq_some_iff.mp e
    split at e
    · rename_i h
      cases e
      cases x <;> cases e2
      cases y <;> cases e4
      rw [Bool.and_eq_true, Bool.and_eq_true] at h
      have h1 := rng_le h.1.1
      have h2 := rng_le h.1.2
      have h3 := rng_le h.2
      refine ⟨ρ, Z, F, _, _, s, e1, fun v H1 Z1 F1 T1 s1 r1 w1 => ⟨_, Z1, F1, _, _, s1, e3, fun u H' Z' F' T s' r w => ⟨m, n, by rw [ow_int w, ow_int w1], by omega, ?_⟩⟩⟩
      exact q _ H' Z' F' s' (r1.ps.trans r.ps) (wk_rng (by have : sizeLine = 16777216 := rfl; omega))
    · cases e
/-- over a list, or a tuple -/
theorem i_seq {tg : Expr} (ha : PE X a (spE X.K B C G ea 0)) (tl : PI X tg a (iList X.K (spE X.K B C G ea 0))) (tt : PI X tg a (iTup X.K (spE X.K B C G ea 0))) : PI X tg a (spI X.K B (evI C G (.seq ea))) := by
  constructor
  rintro pins sh σ H R I ⟨ρ, Z, F, ds, ρ', s, e, q⟩
  simp only [evI] at e
  obtain ⟨⟨x, ρ1⟩, e1, e⟩ := Option.bind_eq_some_iff.mp e
  obtain ⟨l, e2, e⟩ := Option.bind_eq_some_iff.mp e
  cases e
  cases x with
  | list m =>
    cases e2
    refine tl.run pins sh σ H R I ⟨ρ, Z, F, _, _, s, e1, fun v H' Z' F' T s' r w => ?_⟩
    obtain ⟨⟨ad, vs, rfl, h, f⟩, _⟩ := (show (∃ a vs, v = .ref a ∧ StL H' Z' a vs ∧ FzL X.K H' Z' _ vs) ∧ _ from by unfold Ow at w; exact w)
    exact ⟨ad, rfl, ⟨vs, .inl (.inl h.1)⟩, q _ H' Z' F' s' r.ps (wk_lst h.1 h.2 f (s'.gd ad vs (.inl (.inl h.1))))⟩
  | tuple m =>
    cases e2
    refine tt.run pins sh σ H R I ⟨ρ, Z, F, _, _, s, e1, fun v H' Z' F' T s' r w => ?_⟩
    obtain ⟨ad, vs, rfl, h, f⟩ := tup_of_ow w
    exact ⟨ad, rfl, ⟨vs, h⟩, q _ H' Z' F' s' r.ps (wk_tup h f (sqT_len s' h))⟩
  | _ => cases e2
theorem zipD_len : ∀ (x y : List D), (zipD x y).length = min x.length y.length
  | [], _ => by simp [zipD]
  | _ :: _, [] => by simp [zipD]
  | a :: x, b :: y => by
    simp only [zipD, List.length_cons, zipD_len x y]
    omega
theorem zipD_get : ∀ {x y : List D} {i : Nat} (h : i < (zipD x y).length), ∃ a b, x[i]? = some a ∧ y[i]? = some b ∧ (zipD x y)[i] = .tuple [a, b]
  | [], _, i, h => by simp [zipD] at h
  | _ :: _, [], i, h => by simp [zipD] at h
  | a :: x, b :: y, 0, h => ⟨a, b, rfl, rfl, rfl⟩
  | a :: x, b :: y, i + 1, h => by
    obtain ⟨c, d, h1, h2, h3⟩ := zipD_get (x := x) (y := y) (i := i) (by simpa [zipD] using h)
    exact ⟨c, d, by simpa using h1, by simpa using h2, by simpa [zipD] using h3⟩
/-- a new pair -/
theorem yld_pair {K : PySem.W.Frag} {σ : L2.St} {ρ : Env} {H : Hp} {Z : AS} {F : FS} {T : Addr} {x y : V} {p q : D} (s : SR K B σ ρ H Z F) (n : H T = none) (fx : Fz K H Z p x) (fy : Fz K H Z q y) :
    SR K B σ ρ (upd H T (.tup [x, y])) Z F ∧ Ps H Z F (upd H T (.tup [x, y])) Z F ∧ Fz K (upd H T (.tup [x, y])) Z (.tuple [p, q]) (.ref T) := by
  obtain ⟨s', r', o'⟩ := new_tup (l := [p, q]) (vs := [x, y]) s n ⟨x, [y], rfl, fx, y, [], rfl, fy, rfl⟩ (by show 2 ≤ sizeLine; decide) 0
  exact ⟨s', r'.ps, (ow_zero.1 o').1⟩
theorem i_zip {p tpos : Pos} {elts : List Expr} {kk : Nat} (hg : Gl X "zip") (hm : X.mg "zip" = none) (ha : PE X a (spE X.K B C G ea 0)) (hb : PE X b (spE X.K B C G eb 0)) (hs : starEach [a, b] X.env = (false, eval a X.env) :: starEach [b] X.env) (hs2 : starEach [b] X.env = (false, eval b X.env) :: starEach [] X.env) :
    PI X (.Tuple elts kk tpos) (.Call (.Name "zip" p) [a, b] [] pos) (spI X.K B (evI C G (.zip ea eb))) :=
  (RZ.pi_zipA hg hm (pa_cons ha (pa_cons hb pa_nil hs2) hs) hs (by rw [hs2]; rfl)).imp fun σ H R ⟨ρ, Z, F, ds, ρ', s, e, q⟩ => by
    simp only [evI] at e
    obtain ⟨⟨x, ρ1⟩, e1, e⟩ := Option.bind_eq_some_iff.mp e
    obtain ⟨⟨y, ρ2⟩, e2, e⟩ := Option.bind_eq_some_iff.mp e
    refine ⟨ρ, Z, F, x, ρ1, s, e1, fun v H1 Z1 F1 T1 s1 r1 w1 => ⟨ρ1, Z1, F1, y, ρ2, s1, e2, fun u H2 Z2 F2 T2 s2 r2 w2 => ?_⟩⟩
    have ps := r1.ps.trans r2.ps
    have fx := r2.ps.fz s1 (ow_zero.1 w1).1
    have fy := (ow_zero.1 w2).1
    dsimp only at e
    split at e
    · cases e
      unfold Fz at fx fy
      obtain ⟨a1, vs, rfl, h1, f1⟩ := fx
      obtain ⟨a2, ws, rfl, h2, f2⟩ := fy
      have l1 := s2.gd a1 vs (.inl (.inl h1.1))
      refine ⟨a1, a2, vs, ws, rfl, .inl ⟨.inl (.inl h1.1), .inl (.inl h2.1), q _ H2 Z2 F2 s2 ps ⟨?_, fun k => ?_, fun {B σ ρ H' Z' F'} s' k zz i hi => ?_⟩⟩⟩
      · rw [zipD_len, f1.length]; omega
      · refine ⟨vs, ws, .inl (.inl (k _ _ h1.1 (.inl h1.2))), .inl (.inl (k _ _ h2.1 (.inl h2.2))), ?_⟩
        rw [zipD_len, f1.length, f2.length]
        omega
      · obtain ⟨p, q, g1, g2, g3⟩ := zipD_get hi
        obtain ⟨x, g4, g5⟩ := (f1.mono k zz).get g1
        obtain ⟨y, g6, g7⟩ := (f2.mono k zz).get g2
        have n1 : SqL X.K H' a1 vs := .inl (.inl (k _ _ h1.1 (.inl h1.2)))
        have n2 : SqL X.K H' a2 ws := .inl (.inl (k _ _ h2.1 (.inl h2.2)))
        refine ⟨⟨vs, ws, x, y, n1, n2, g4, g6⟩, fun z Hz yl => ?_⟩
        obtain ⟨T, x', y', rfl, n, rfl, y1, y2⟩ := yl
        have y1 := y1 vs n1
        have y2 := y2 ws n2
        rw [g4] at y1
        rw [g6] at y2
        cases y1
        cases y2
        rw [g3]
        exact yld_pair s' n g5 g7
    · cases e
      unfold Fz at fx fy
      obtain ⟨a1, vs, rfl, h1, f1⟩ := fx
      obtain ⟨a2, ws, rfl, h2, f2⟩ := fy
      have l1 := sqT_len s2 h1
      refine ⟨a1, a2, vs, ws, rfl, .inr ⟨h1, h2, q _ H2 Z2 F2 s2 ps ⟨?_, fun k => ?_, fun {B σ ρ H' Z' F'} s' k zz i hi => ?_⟩⟩⟩
      · rw [zipD_len, f1.length]; omega
      · refine ⟨vs, ws, sqT_mono h1 fun b o e n => k b o e (.inr n), sqT_mono h2 fun b o e n => k b o e (.inr n), ?_⟩
        rw [zipD_len, f1.length, f2.length]
        omega
      · obtain ⟨p, q, g1, g2, g3⟩ := zipD_get hi
        obtain ⟨x, g4, g5⟩ := (f1.mono k zz).get g1
        obtain ⟨y, g6, g7⟩ := (f2.mono k zz).get g2
        have n1 : SqT X.K H' a1 vs := sqT_mono h1 fun b o e n => k b o e (.inr n)
        have n2 : SqT X.K H' a2 ws := sqT_mono h2 fun b o e n => k b o e (.inr n)
        refine ⟨⟨vs, ws, x, y, n1, n2, g4, g6⟩, fun z Hz yl => ?_⟩
        obtain ⟨T, x', y', rfl, n, rfl, y1, y2⟩ := yl
        have y1 := y1 vs n1
        have y2 := y2 ws n2
        rw [g4] at y1
        rw [g6] at y2
        cases y1
        cases y2
        rw [g3]
        exact yld_pair s' n g5 g7
    · cases e
theorem enumD_len : ∀ (n : Nat) (x : List D), (enumD n x).length = x.length
  | _, [] => rfl
  | n, a :: x => by simp [enumD, enumD_len (n + 1) x]
theorem enumD_get : ∀ {x : List D} {n i : Nat} (h : i < (enumD n x).length), ∃ a, x[i]? = some a ∧ (enumD n x)[i] = .tuple [.int (n + i : Nat), a]
  | [], _, i, h => by simp [enumD] at h
  | a :: x, n, 0, h => ⟨a, rfl, rfl⟩
  | a :: x, n, i + 1, h => by
    obtain ⟨c, h1, h3⟩ := enumD_get (x := x) (n := n + 1) (i := i) (by simpa [enumD] using h)
    refine ⟨c, by simpa using h1, ?_⟩
    simp only [enumD, List.getElem_cons_succ]
    rw [h3, show n + 1 + i = n + (i + 1) by omega]
end
end
end BW

/-! BwE10: targets; comprehensions. -/
namespace BW
noncomputable section
open PySem PySem.Spec PyProof.Rows L2
mutual
def varsT : Tg → List Nat
  | .var i => [i]
  | .tup ts => varsTs ts
def varsTs : Tgs → List Nat
  | .nil => []
  | .cons t ts => varsT t ++ varsTs ts
end
def lenTs : Tgs → Nat
  | .nil => 0
  | .cons _ ts => lenTs ts + 1
section
variable {K : PySem.W.Frag} {H H0 H1 H2 : Hp} {Z Z0 Z1 Z2 : AS} {F F0 F1 F2 : FS} {B : Bk} {σ σ' : L2.St} {ρ ρ0 ρ1 ρ' : Env}
theorem putR_some {i : Nat} {r : R} (h : putR ρ i r = some ρ') : ρ' = ρ.set i r ∧ i < ρ.length := by
  unfold putR at h
  split at h
  · cases h
  · split at h
    · rename_i h2
      cases h
      exact ⟨rfl, h2⟩
    · cases h
/-- a value at a name -/
theorem put_val {i : Nat} {d : D} {v : V} (s : SR K B σ ρ H Z F) (h : putR ρ i (.val d) = some ρ') (f : Fz K H Z d v) :
    SR K B (σ.set i (some v)) ρ' H Z (fun j => if j = i then (if i < ρ.length then fun _ => False else fun _ => False) else F j) ∧ Ps H Z F H Z (fun j => if j = i then (if i < ρ.length then fun _ => False else fun _ => False) else F j) := by
  obtain ⟨rfl, hi⟩ := putR_some h
  exact ⟨s.put (k := 0) i (ow_zero.2 ⟨f, fun _ z => z⟩) (T := fun _ => False) Tm.none, Rs.put (Rs.refl fun _ z => z) i ρ⟩
def spG (K : PySem.W.Frag) (B : Bk) (t : Tg) : TG := fun v σ H Q => ∃ ρ Z F d ρ', SR K B σ ρ H Z F ∧ Fz K H Z d v ∧ bindT t d ρ = some ρ' ∧
  ∀ σ' F', SR K B σ' ρ' H Z F' → Ps H Z F H Z F' → (∀ i, i ∉ varsT t → σ'[i]? = σ[i]?) → Q σ' H
def spGs (K : PySem.W.Frag) (B : Bk) (t : Tgs) : TGs := fun vs σ H Q => ∃ ρ Z F ds ρ', SR K B σ ρ H Z F ∧ FzL K H Z ds vs ∧ bindTs t ds ρ = some ρ' ∧
  ∀ σ' F', SR K B σ' ρ' H Z F' → Ps H Z F H Z F' → (∀ i, i ∉ varsTs t → σ'[i]? = σ[i]?) → Q σ' H
theorem _root_.L2.PG.imp {X : Cx} {e : Expr} {t t' : TG} (h : PG X e t) (f : ∀ v σ H Q, t' v σ H Q → t v σ H Q) : PG X e t' := by
  constructor
  intro pins s v σ H u Q I r q
  exact h.run pins s v σ H u Q I r (f _ _ _ _ q)
theorem _root_.L2.PGs.imp {X : Cx} {e : List Expr} {t t' : TGs} (h : PGs X e t) (f : ∀ v σ H Q, t' v σ H Q → t v σ H Q) : PGs X e t' := by
  constructor
  intro pins s σ H v u Q I r q
  exact h.run pins s σ H v u Q I r (f _ _ _ _ q)
theorem g_var {X : Cx} {i : Nat} {x : Str} {pos : Pos} (hN : X.N.Nodup) (hi : X.N[i]? = some x) (hx : Loc X.env.scope x) (hf : X.fn x = true ∨ X.env.scope.names.lookup x = some .local) : PG X (.Name x pos) (spG X.K B (.var i)) :=
  (pg_name hN hi hx hf).imp fun v σ H Q ⟨ρ, Z, F, d, ρ', s, f, e, q⟩ => by
    simp only [bindT] at e
    obtain ⟨s', p⟩ := put_val s e f
    refine q _ _ s' p fun j hj => ?_
    rw [List.getElem?_set_ne (fun e => hj (by simp [varsT, e]))]
theorem gs_nil {X : Cx} : PGs X [] (spGs X.K B .nil) := pgs_nil.imp fun vs σ H Q ⟨ρ, Z, F, ds, ρ', s, f, e, q⟩ => by
  cases ds with
  | cons d ds => simp only [bindTs] at e; cases e
  | nil =>
    simp only [bindTs] at e
    cases e
    cases f
    exact ⟨rfl, q σ F s Ps.refl fun _ _ => rfl⟩
theorem gs_cons {X : Cx} {e : Expr} {es : List Expr} {t : Tg} {ts : Tgs} (h1 : PG X e (spG X.K B t)) (h2 : PGs X es (spGs X.K B ts)) (h3 : PGs X (e :: es) (gCons (spG X.K B t) (spGs X.K B ts))) : PGs X (e :: es) (spGs X.K B (.cons t ts)) :=
  h3.imp fun vs σ H Q ⟨ρ, Z, F, ds, ρ', s, f, e, q⟩ => by
    cases ds with
    | nil => simp only [bindTs] at e; cases e
    | cons d ds =>
      simp only [bindTs] at e
      obtain ⟨ρ1, e1, e2⟩ := Option.bind_eq_some_iff.mp e
      unfold FzL at f
      obtain ⟨v, ws, rfl, f1, f2⟩ := f
      refine ⟨v, ws, rfl, ρ, Z, F, d, ρ1, s, f1, e1, fun σ' F' s' p' k' => ⟨ρ1, Z, F', ds, ρ', s', f2, e2, fun σ2 F2 s2 p2 k2 => q σ2 F2 s2 (p'.trans p2) fun i hi => ?_⟩⟩
      simp only [varsTs, List.mem_append, not_or] at hi
      rw [k2 i hi.2, k' i hi.1]
theorem bindTs_len : ∀ {ts : Tgs} {ds : List D} {ρ ρ' : Env}, bindTs ts ds ρ = some ρ' → ds.length = lenTs ts
  | .nil, [], _, _, _ => rfl
  | .nil, _ :: _, _, _, e => by simp only [bindTs] at e; cases e
  | .cons t ts, [], _, _, e => by simp only [bindTs] at e; cases e
  | .cons t ts, d :: ds, _, _, e => by
    simp only [bindTs] at e
    obtain ⟨ρ1, _, e2⟩ := Option.bind_eq_some_iff.mp e
    simp [lenTs, bindTs_len e2]
theorem g_tup {X : Cx} {es : List Expr} {ts : Tgs} {k : Nat} {pos : Pos} (h : PG X (.Tuple es k pos) (gTup X.K (lenTs ts) (spGs X.K B ts))) (h' : PG X (.Tuple es k pos) (gLst X.K (lenTs ts) (spGs X.K B ts))) : PG X (.Tuple es k pos) (spG X.K B (.tup ts)) := by
  constructor
  intro pins sh σ H v u Q I r hw
  have two : gTup X.K (lenTs ts) (spGs X.K B ts) v σ H Q ∨ gLst X.K (lenTs ts) (spGs X.K B ts) v σ H Q := by
    obtain ⟨ρ, Z, F, d, ρ', s, f, e, q⟩ := hw
    cases d with
    | tuple l =>
      simp only [bindT] at e
      unfold Fz at f
      obtain ⟨a, vs, rfl, h, f⟩ := f
      exact .inl ⟨a, vs, rfl, h, by rw [← f.length]; exact bindTs_len e, ρ, Z, F, l, ρ', s, f, e, q⟩
    | list l =>
      simp only [bindT] at e
      unfold Fz at f
      obtain ⟨a, vs, rfl, h, f⟩ := f
      exact .inr ⟨a, vs, rfl, .inl (.inl h.1), by rw [← f.length]; exact bindTs_len e, ρ, Z, F, l, ρ', s, f, e, q⟩
    | _ => simp only [bindT] at e; cases e
  rcases two with w | w
  · exact h.run pins sh σ H v u Q I r w
  · exact h'.run pins sh σ H v u Q I r w
/-! ### wiping -/
theorem slot_kills : ∀ (vs : List Nat) {ρ : Env} {i : Nat}, slot (kills ρ vs) i = if i ∈ vs then .un else slot ρ i
  | [], ρ, i => by simp [kills]
  | v :: vs, ρ, i => by
    unfold kills
    rw [slot_kills vs, slot_set]
    by_cases h1 : i ∈ vs
    · simp [h1]
    · by_cases h2 : v = i
      · subst h2
        simp [h1]
      · simp [h1, h2, Ne.symm h2]
theorem kills_len : ∀ (vs : List Nat) {ρ : Env}, (kills ρ vs).length = ρ.length
  | [], ρ => rfl
  | v :: vs, ρ => by unfold kills; rw [kills_len vs, List.length_set]
theorem wipe_at : ∀ {vs : List Nat} {σ : L2.St} {i : Nat}, i ∉ vs → (wipe σ vs)[i]? = σ[i]?
  | [], _, _, _ => rfl
  | v :: vs, σ, i, h => by
    simp only [List.mem_cons, not_or] at h
    unfold wipe
    rw [List.getElem?_set_ne (Ne.symm h.1), wipe_at h.2]
abbrev dropF (F : FS) (vs : List Nat) : FS := fun i => if i ∈ vs then fun _ => False else F i
theorem dropF_sub {vs : List Nat} {i : Nat} {a : Addr} (h : dropF F vs i a) : F i a ∧ i ∉ vs := by
  unfold dropF at h
  split at h
  · exact h.elim
  · rename_i h2
    exact ⟨h, h2⟩
/-- names forgotten -/
theorem SR.kill (s : SR K B σ ρ H Z F) (vs : List Nat) (hl : σ'.length = σ.length) (hs : ∀ i, i ∉ vs → σ'[i]? = σ[i]?) : SR K B σ' (kills ρ vs) H Z (dropF F vs) where
  len := by rw [kills_len, s.len, hl]
  sl := fun i => by
    rw [slot_kills]
    by_cases h : i ∈ vs
    · rw [if_pos h]
      unfold dropF
      rw [if_pos h]
      exact fun _ z => z
    · rw [if_neg h, hs i h]
      unfold dropF
      rw [if_neg h]
      exact s.sl i
  dj := fun i j a h1 h2 => s.dj i j a (dropF_sub h1).1 (dropF_sub h2).1
  nz := fun i a h => s.nz i a (dropF_sub h).1
  mu := fun i a h => s.mu i a (dropF_sub h).1
  zt := s.zt
  gd := s.gd
theorem Ps.kill (vs : List Nat) : Ps H Z F H Z (dropF F vs) := ⟨fun _ _ e _ => e, fun a o e => ⟨o, e⟩, fun _ z => z, fun _ z => .inl z, fun i a h => .inl ⟨i, (dropF_sub h).1⟩⟩
theorem slot_resto (ρ1 : Env) : ∀ (vs : List Nat) {ρ : Env} {i : Nat}, slot (resto ρ1 vs ρ) i = if i ∈ vs ∧ i < ρ.length then (match slot ρ1 i with
    | .val d => .val d
    | _ => .un) else slot ρ i
  | [], ρ, i => by simp [resto]
  | v :: vs, ρ, i => by
    unfold resto
    rw [slot_resto ρ1 vs, slot_set, List.length_set]
    by_cases h1 : i ∈ vs ∧ i < ρ.length
    · rw [if_pos h1, if_pos ⟨List.mem_cons_of_mem _ h1.1, h1.2⟩]
      all_goals rfl
    · rw [if_neg h1]
      by_cases h2 : v = i
      · subst h2
        rw [if_pos rfl]
        by_cases h3 : v < ρ.length
        · rw [if_pos h3, if_pos ⟨List.mem_cons_self .., h3⟩]
          all_goals rfl
        · rw [if_neg h3, if_neg (fun h => h3 h.2)]
          unfold slot
          rw [List.getD_eq_getElem?_getD, List.getElem?_eq_none (Nat.le_of_not_lt h3)]
          rfl
      · rw [if_neg h2, if_neg]
        rintro ⟨h3, h4⟩
        rcases List.mem_cons.mp h3 with h3 | h3
        · exact h2 h3.symm
        · exact h1 ⟨h3, h4⟩
theorem resto_len (ρ1 : Env) : ∀ (vs : List Nat) {ρ : Env}, (resto ρ1 vs ρ).length = ρ.length
  | [], ρ => rfl
  | v :: vs, ρ => by unfold resto; rw [resto_len ρ1 vs, List.length_set]
/-- behind a comprehension: the names that it hid are there again -/
theorem SR.unwipe {vs : List Nat} (s0 : SR K B σ ρ1 H1 Z1 F1) (p : Ps H1 Z1 F1 H Z F) (s : SR K B (wipe σ vs) ρ H Z F) : SR K B σ (resto ρ1 vs ρ) H Z (dropF F vs) where
  len := by rw [resto_len, s.len, wipe_length]
  sl := fun i => by
    rw [slot_resto]
    have un : i ∈ vs → ∀ a, ¬ dropF F vs i a := fun h a z => (dropF_sub z).2 h
    by_cases h : i ∈ vs ∧ i < ρ.length
    · rw [if_pos h]
      cases e : slot ρ1 i with
      | val d =>
        obtain ⟨v, ev, f, _⟩ := s0.val e
        exact ⟨v, ev, p.fz s0 f, un h.1⟩
      | _ => exact un h.1
    · rw [if_neg h]
      by_cases h2 : i ∈ vs
      · have h3 : ρ.length ≤ i := by
          rcases Nat.lt_or_ge i ρ.length with h4 | h4
          · exact absurd ⟨h2, h4⟩ h
          · exact h4
        have : slot ρ i = .un := by
          unfold slot
          rw [List.getD_eq_getElem?_getD, List.getElem?_eq_none h3]
          rfl
        rw [this]
        exact un h2
      · have q := s.sl i
        rw [wipe_at h2] at q
        unfold dropF
        rw [if_neg h2]
        exact q
  dj := fun i j a h1 h2 => s.dj i j a (dropF_sub h1).1 (dropF_sub h2).1
  nz := fun i a h => s.nz i a (dropF_sub h).1
  mu := fun i a h => s.mu i a (dropF_sub h).1
  zt := s.zt
  gd := s.gd
/-- a list held by the way is written -/
theorem SR.wr {D : Addr} {xs ys : List V} (s : SR K B σ ρ H Z F) (h : H D = some (.lst xs)) (nz : ¬ Z D) (nf : ∀ i, ¬ F i D) (hz : ys.length ≤ sizeLine) : SR K B σ ρ (upd H D (.lst ys)) Z F := by
  have kp : ∀ i a o, H a = some o → (Z a ∨ F i a ∨ ∀ xs, o ≠ .lst xs) → upd H D (.lst ys) a = some o := fun i a o e q => by
    have ne : a ≠ D := by
      rintro rfl
      rcases q with q | q | q
      · exact nz q
      · exact nf i q
      · rw [h] at e; cases e; exact q _ rfl
    rw [upd_ne ne]
    exact e
  refine ⟨s.len, fun i => (s.sl i).mono (fun _ z => z) (kp i), s.dj, s.nz, fun i a z => let ⟨vs, e⟩ := s.mu i a z; ⟨vs, kp i a _ e (.inr (.inl z))⟩, fun a z => let ⟨o, e⟩ := s.zt a z; ⟨o, kp 0 a o e (.inl z)⟩, s.gd.lst hz⟩
theorem Ps.wr {D : Addr} {o : HO} (p : Ps H Z F H1 Z1 F1) (n : H D = none) : Ps H Z F (upd H1 D o) Z1 F1 :=
  ⟨fun a o' e f => by rw [upd_ne (ne_of_none e n)]; exact p.keep a o' e f, fun a o' e => by rw [upd_ne (ne_of_none e n)]; exact p.dom a o' e, p.zz, p.zn, p.fn⟩
theorem OwL.snoc {k : Nat} {d : D} {v : V} {T2 : AS} : ∀ {l : List D} {vs : List V} {T : AS}, OwL K H Z l k vs T → Ow K H Z d k v T2 → (∀ a, T a → ¬ T2 a) → OwL K H Z (l ++ [d]) k (vs ++ [v]) (fun a => T a ∨ T2 a)
  | [], _, T, h, o, dj => by
    obtain ⟨rfl, t⟩ := h
    show OwL K H Z [d] k [v] _
    unfold OwL
    exact ⟨v, [], T2, fun _ => False, rfl, o, ⟨rfl, fun _ z => z⟩, fun _ _ z => z, fun a => ⟨fun z => z.elim (fun z => (t a z).elim) .inl, fun z => z.elim .inr fun z => z.elim⟩⟩
  | x :: l, _, T, h, o, dj => by
    unfold OwL at h
    obtain ⟨u, ws, T1, T3, rfl, h1, h2, dj2, t⟩ := h
    show OwL K H Z (x :: (l ++ [d])) k (u :: (ws ++ [v])) _
    unfold OwL
    refine ⟨u, ws ++ [v], T1, fun a => T3 a ∨ T2 a, rfl, h1, h2.snoc o fun a z => dj a ((t a).2 (.inr z)), fun a z y => y.elim (dj2 a z) fun y => dj a ((t a).2 (.inl z)) y, fun a => ?_⟩
    show (T a ∨ T2 a) ↔ (T1 a ∨ (T3 a ∨ T2 a))
    rw [t a, or_assoc]
end
/-! ### comprehensions -/
mutual
theorem bindT_len : ∀ {t : Tg} {d : D} {ρ ρ' : Env}, bindT t d ρ = some ρ' → ρ'.length = ρ.length
  | .var i, d, ρ, ρ', h => by
    simp only [bindT] at h
    rw [(putR_some h).1, List.length_set]
  | .tup ts, .tuple l, ρ, ρ', h => by
    simp only [bindT] at h
    exact bindTs_len' h
  | .tup _, .none, _, _, h => by simp only [bindT] at h; cases h
  | .tup _, .bool _, _, _, h => by simp only [bindT] at h; cases h
  | .tup _, .int _, _, _, h => by simp only [bindT] at h; cases h
  | .tup _, .str _, _, _, h => by simp only [bindT] at h; cases h
  | .tup ts, .list l, ρ, ρ', h => by
    simp only [bindT] at h
    exact bindTs_len' h
  | .tup _, .dict _, _, _, h => by simp only [bindT] at h; cases h
theorem bindTs_len' : ∀ {t : Tgs} {d : List D} {ρ ρ' : Env}, bindTs t d ρ = some ρ' → ρ'.length = ρ.length
  | .nil, [], _, _, h => by simp only [bindTs] at h; cases h; rfl
  | .nil, _ :: _, _, _, h => by simp only [bindTs] at h; cases h
  | .cons _ _, [], _, _, h => by simp only [bindTs] at h; cases h
  | .cons t ts, d :: ds, ρ, ρ', h => by
    simp only [bindTs] at h
    obtain ⟨ρ1, e1, e2⟩ := Option.bind_eq_some_iff.mp h
    rw [bindTs_len' e2, bindT_len e1]
end
theorem wipe_in : ∀ {vs : List Nat} {σ : L2.St} {i : Nat}, i ∈ vs → (wipe σ vs)[i]? = if i < σ.length then some none else none
  | [], _, _, h => by cases h
  | v :: vs, σ, i, h => by
    unfold wipe
    rw [List.getElem?_set, wipe_length]
    by_cases e : v = i
    · subst e
      simp
    · rw [if_neg e]
      exact wipe_in ((List.mem_cons.mp h).resolve_left (Ne.symm e))
section
variable {X : Cx} {B : Bk} {C : Calls} {G : Nat → D} {k j : Nat} {pos : Pos} {e : Ex}
theorem ts_nil : PTs X [] (spT X.K B (evAnd C G .nil)) := ⟨fun pins s σ H Q I ⟨ρ, Z, F, b, ρ', sr, e, q⟩ => pts_nil.run pins s σ H Q I (by
  simp only [evAnd] at e
  cases e
  exact q H Z F sr Ps.refl)⟩
theorem ts_one {c : Expr} {ec : Ex} (h : PT X c (spT X.K B (evE C G ec))) : PTs X [c] (spT X.K B (evAnd C G (.cons ec .nil))) := ⟨fun pins s σ H Q I ⟨ρ, Z, F, b, ρ', sr, e, q⟩ => (pts_one h).run pins s σ H Q I (by
  simp only [evAnd] at e
  obtain ⟨⟨x, ρ1⟩, e1, e⟩ := Option.bind_eq_some_iff.mp e
  obtain ⟨i, e2, e⟩ := Option.bind_eq_some_iff.mp e
  cases x <;> cases e2
  have e3 : b = i ∧ ρ' = ρ1 := by cases i <;> cases e <;> exact ⟨rfl, rfl⟩
  obtain ⟨rfl, rfl⟩ := e3
  exact ⟨ρ, Z, F, _, _, sr, e1, q⟩)⟩
theorem comp_fin {t : Tg} {it : It} {cs : Exs} {own : List Nat} {own' : List (Str × Nat)} (hv : own'.map (·.2) = own) (hsub : ∀ i ∈ varsT t, i ∈ own) (hk : k ≤ j + 1) : ∀ σ H Q, spE X.K B C G (.comp e t it cs own) k σ H Q → tLc (spI X.K B (evI C G it)) (spG X.K B t) (spT X.K B (evAnd C G cs)) (spE X.K B C G e j) (own'.map (·.2)) σ H Q :=
  fun σ H0 Q ⟨ρ0, Z0, F0, d, ρ', s0, ev, q⟩ => by
    rw [hv]
    simp only [evE] at ev
    obtain ⟨⟨ds, ρ1⟩, e1, ev⟩ := Option.bind_eq_some_iff.mp ev
    obtain ⟨⟨res, ρ2⟩, e2, ev⟩ := Option.bind_eq_some_iff.mp ev
    cases ev
    dsimp only at e2
    refine ⟨ρ0, Z0, F0, ds, ρ1, s0, e1, fun J H1 Z1 F1 s1 p1 wk Dn nD => ?_⟩
    have hsz := wk.len
    -- what holds ahead of a turn
    refine ⟨fun i m H => m = ds.length - i ∧ i ≤ ds.length ∧ ∃ ρi Z F acc vs T rest, SR X.K B (wipe σ own) ρi H Z F ∧ Ps H1 Z1 F1 H Z F ∧ compL (fun d ρ => (bindT t d ρ).bind fun ρ2 => (evAnd C G cs ρ2).bind fun c => (boolOf c.1).bind fun z =>
        if z then (evE C G e c.2).bind fun x => some (some x.1, kills x.2 own) else some (none, kills c.2 own)) (ds.drop i) ρi = some (rest, ρ2) ∧ acc ++ rest = res ∧ acc.length ≤ i ∧ H Dn = some (.lst vs) ∧ OwL X.K H Z acc j vs T ∧ Tm H Z F (fun a => a = Dn ∨ T a) ∧ ¬ T Dn ∧ ∀ a, T a → (∃ i, F1 i a) ∨ H1 a = none,
      ⟨ds.length, ?_⟩, ?_⟩
    · have kl := s1.kill own (σ' := wipe σ own) (wipe_length σ own) (fun i h => wipe_at h)
      have up := keep_upd (o := .lst []) nD
      refine ⟨by simp, Nat.zero_le _, kills ρ1 own, Z1, dropF F1 own, [], [], fun _ => False, res, ?_, ?_, by simpa using e2, rfl, Nat.le_refl _, upd_same, ⟨rfl, fun _ z => z⟩, ?_, fun z => z, fun _ z => z.elim⟩
      · exact kl.more up (fun _ z => z) kl.nz (fun a z => let ⟨o, e⟩ := kl.zt a z; ⟨o, up _ _ e⟩) (kl.gd.lst (Nat.zero_le _))
      · exact (Ps.kill own).wr nD
      · rintro a (rfl | z)
        · refine ⟨⟨[], upd_same⟩, fun z => ?_, fun i z => ?_⟩
          · obtain ⟨o, e⟩ := s1.zt _ z
            rw [nD] at e; cases e
          · obtain ⟨o, e⟩ := s1.mu i _ (dropF_sub z).1
            rw [nD] at e; cases e
        · exact z.elim
    · rintro i m H ⟨rfl, hi, ρi, Z, F, acc, vs, T, rest, s, ps, ec, ea, la, hD, ol, tm, nT, tf⟩
      have kp : Kp H1 Z1 H := ps_kp s1 ps
      by_cases hlt : i < ds.length
      · right
        obtain ⟨g1, g2⟩ := wk.go s kp ps.zz i hlt
        refine ⟨g1, fun H' => ∃ ρi Z F acc vs T rest, SR X.K B (wipe σ own) ρi H' Z F ∧ Ps H1 Z1 F1 H' Z F ∧ compL (fun d ρ => (bindT t d ρ).bind fun ρ2 => (evAnd C G cs ρ2).bind fun c => (boolOf c.1).bind fun z =>
            if z then (evE C G e c.2).bind fun x => some (some x.1, kills x.2 own) else some (none, kills c.2 own)) (ds.drop (i + 1)) ρi = some (rest, ρ2) ∧ acc ++ rest = res ∧ acc.length ≤ i + 1 ∧ H' Dn = some (.lst vs) ∧ OwL X.K H' Z acc j vs T ∧ Tm H' Z F (fun a => a = Dn ∨ T a) ∧ ¬ T Dn ∧ ∀ a, T a → (∃ i, F1 i a) ∨ H1 a = none,
          fun H' ⟨ρ', Z', F', acc', vs', T', rest', w⟩ => ⟨ds.length - (i + 1), by omega, rfl, hlt, ρ', Z', F', acc', vs', T', rest', w⟩, fun x Hy yl => ?_⟩
        obtain ⟨sy, py, fy⟩ := g2 x Hy yl
        -- the evaluation's own turn
        rw [List.drop_eq_getElem_cons hlt] at ec
        simp only [compL] at ec
        obtain ⟨⟨ox, ρn⟩, ec1, ec2⟩ := Option.bind_eq_some_iff.mp ec
        obtain ⟨⟨rest', ρ2'⟩, ec3, ec4⟩ := Option.map_eq_some_iff.mp ec2
        cases ec4
        obtain ⟨ρt, et, ec5⟩ := Option.bind_eq_some_iff.mp ec1
        obtain ⟨⟨c, ρc⟩, ek, ec6⟩ := Option.bind_eq_some_iff.mp ec5
        obtain ⟨z, ez, ec7⟩ := Option.bind_eq_some_iff.mp ec6
        clear ec1 ec5 ec6
        dsimp only at ez ec7 ec3
        refine ⟨ρi, Z, F, _, ρt, sy, fy, et, fun σ2 F2 s2 p2 k2 => ⟨?_, ?_⟩⟩
        · have hσ : ∀ i, i ∉ own → σ2[i]? = (wipe σ own)[i]? := fun i hi => k2 i fun hm => hi (hsub i hm)
          refine List.ext_getElem? fun i => ?_
          have hl : σ2.length = (wipe σ own).length := by
            have h1 := s2.len
            have h2 := sy.len
            have h3 : ρt.length = ρi.length := by
              have := bindT_len et
              exact this
            omega
          by_cases h : i ∈ own
          · rw [wipe_in h, wipe_in h, hl, wipe_length]
          · rw [wipe_at h, hσ i h]
        · cases c <;> cases ez
          refine ⟨ρt, Z, F2, z, ρc, s2, ek, fun H3 Z3 F3 s3 p3 => ?_⟩
          have hσ : ∀ i, i ∉ own → (wipe σ own)[i]? = σ2[i]? := fun i hi => (k2 i fun hm => hi (hsub i hm)).symm
          have hl2 : (wipe σ own).length = σ2.length := by
            have h1 := s2.len
            have h2 := sy.len
            have h3 : ρt.length = ρi.length := bindT_len et
            omega
          have pp : Ps H Z F H3 Z3 F3 := (py.trans p2).trans p3
          cases z with
          | false =>
            refine iteF ?_
            simp only [Bool.false_eq_true, if_false] at ec7
            cases ec7
            have pk : Ps H Z F H3 Z3 (dropF F3 own) := pp.trans (Ps.kill own)
            refine ⟨_, Z3, dropF F3 own, acc, vs, T, rest', s3.kill own hl2 hσ, ps.trans pk, ec3, ea, by omega, ?_, pk.owL s (tm.sub fun a z => .inr z) ol, tm.ps pk, nT, tf⟩
            exact pk.keep _ _ hD fun i z => (tm Dn (.inl rfl)).2.2 i z
          | true =>
            refine iteT ?_
            simp only [if_true] at ec7
            obtain ⟨px, ex, ec8⟩ := Option.bind_eq_some_iff.mp ec7
            have eo : ox = some px.1 := (congrArg Prod.fst (Option.some.inj ec8)).symm
            have en : ρn = kills px.2 own := (congrArg Prod.snd (Option.some.inj ec8)).symm
            subst eo
            subst en
            refine ⟨ρc, Z3, F3, px.1, px.2, s3, ex, fun y H4 Z4 F4 Ty s4 r4 o4 => ?_⟩
            have pq : Ps H Z F H4 Z4 F4 := pp.trans r4.ps
            have hD4 : H4 Dn = some (.lst vs) := pq.keep _ _ hD fun i z => (tm Dn (.inl rfl)).2.2 i z
            have hlen : vs.length < sizeLine := by rw [← owL_len ol]; omega
            refine ⟨vs, hD4, hlen, ?_⟩
            have pk : Ps H Z F H4 Z4 (dropF F4 own) := pq.trans (Ps.kill own)
            have tm4 : Tm H4 Z4 (dropF F4 own) (fun a => a = Dn ∨ T a) := tm.ps pk
            have s5 := s4.kill own hl2 hσ
            have hz5 : (vs ++ [y]).length ≤ sizeLine := by rw [List.length_append]; exact hlen
            have s6 := s5.wr hD4 (tm4 Dn (.inl rfl)).2.1 (tm4 Dn (.inl rfl)).2.2 hz5
            -- what is new belongs to nobody
            have new : ∀ a, Ty a → ¬ (a = Dn ∨ T a) := fun a z y => by
              obtain ⟨⟨ws, h1⟩, h2, h3⟩ := (tm.ps pp) a y
              rcases r4.tf a z with ⟨i, u⟩ | u
              · exact h3 i u
              · rw [h1] at u; cases u
            have nTy : ¬ Ty Dn := fun z => new Dn z (.inl rfl)
            have ol4 := pk.owL s (tm.sub fun a z => .inr z) ol
            have olS := ol4.snoc (T2 := Ty) o4 fun a z y => new a y (.inr z)
            have kw : ∀ a o, H4 a = some o → (Z4 a ∨ (T a ∨ Ty a) ∨ ∀ xs, o ≠ .lst xs) → upd H4 Dn (.lst (vs ++ [y])) a = some o := fun a o e h => by
              have ne : a ≠ Dn := by
                rintro rfl
                rcases h with h | h | h
                · exact (tm4 a (.inl rfl)).2.1 h
                · exact h.elim nT nTy
                · rw [hD4] at e; cases e; exact h _ rfl
              rw [upd_ne ne]
              exact e
            refine ⟨_, Z4, dropF F4 own, acc ++ [px.1], vs ++ [y], fun a => T a ∨ Ty a, rest', s6, (ps.trans pk).wr nD, ec3, ?_, ?_, upd_same, olS.mono (fun _ z => z) kw, ?_, fun z => z.elim nT nTy, fun a z => ?_⟩
            · rw [List.append_assoc]
              exact ea
            · rw [List.length_append]
              show acc.length + 1 ≤ i + 1
              omega
            · rintro a (rfl | z)
              · exact ⟨⟨_, upd_same⟩, (tm4 a (.inl rfl)).2.1, (tm4 a (.inl rfl)).2.2⟩
              · have ne : a ≠ Dn := by rintro rfl; exact z.elim nT nTy
                rw [upd_ne ne]
                rcases z with z | z
                · exact tm4 a (.inr z)
                · obtain ⟨h1, h2, h3⟩ := r4.tm a z
                  exact ⟨h1, h2, fun i y => h3 i (dropF_sub y).1⟩
            · rcases z with z | z
              · exact tf a z
              · rcases r4.tf a z with ⟨i, u⟩ | u
                · exact (ps.trans pp).fn i a u
                · exact .inr (none_of_dom (ps.trans pp).dom u)
      · left
        have e : i = ds.length := by omega
        subst e
        refine ⟨wk.stop kp, ?_⟩
        rw [List.drop_length] at ec
        simp only [compL] at ec
        cases ec
        rw [List.append_nil] at ea
        subst ea
        have sf := s1.unwipe ps s
        have pf : Ps H0 Z0 F0 H Z (dropF F own) := (p1.trans ps).trans (Ps.kill own)
        have of : Ow X.K H Z (.list acc) (j + 1) (.ref Dn) (fun a => a = Dn ∨ T a) := by
          unfold Ow
          exact ⟨Dn, vs, T, rfl, hD, nT, ol, fun _ => Iff.rfl⟩
        refine fin_ow sf (H0 := H0) (Z0 := Z0) (F0 := F0) ⟨pf, fun a z => ?_, fun a z => ?_⟩ of hk fun Z' T' s r o => q _ _ _ _ _ s r o
        · obtain ⟨h1, h2, h3⟩ := tm a z
          exact ⟨h1, h2, fun i y => h3 i (dropF_sub y).1⟩
        · rcases z with rfl | z
          · exact .inr (none_of_dom p1.dom nD)
          · rcases tf a z with ⟨i, u⟩ | u
            · exact p1.fn i a u
            · exact .inr (none_of_dom p1.dom u)
theorem s_comp {t : Tg} {it : It} {cs : Exs} {own : List Nat} {elt tg iter : Expr} {ifs : List Expr} {scope : Scope} {own' : List (Str × Nat)} (hc : X.calm = true) (hN : X.N.Nodup) (hi : PI X tg iter (spI X.K B (evI C G it))) (ok : BlkOk X.N X.env.scope scope own')
    (hg : ∀ (s : Shared) (H : Hp) (A : Addr) (cl : List (Str × Addr)) (fp : List Addr), PG (X.blk s H scope (compEnvC scope cl A X.env) fp) tg (spG X.K B t)) (ht : ∀ (s : Shared) (H : Hp) (A : Addr) (cl : List (Str × Addr)) (fp : List Addr), PTs (X.blk s H scope (compEnvC scope cl A X.env) fp) ifs (spT X.K B (evAnd C G cs)))
    (he : ∀ (s : Shared) (H : Hp) (A : Addr) (cl : List (Str × Addr)) (fp : List Addr), PE (X.blk s H scope (compEnvC scope cl A X.env) fp) elt (spE X.K B C G e j)) (hs : ∀ x, foldedSetIterable iter X.env x = pure x) (hv : own'.map (·.2) = own) (hsub : ∀ i ∈ varsT t, i ∈ own) (hk : k ≤ j + 1) :
    PE X (.ListComp elt [⟨tg, iter, ifs, 0⟩] scope pos) (spE X.K B C G (.comp e t it cs own) k) :=
  (pe_lc hc hN hi ok hg ht he hs).imp (comp_fin hv hsub hk)
end
end
end BW

/-! BwE11: statements: stores, tests, loops. -/
namespace BW
noncomputable section
open PySem PySem.Spec PyProof.Rows L2
def FinS (K : PySem.W.Frag) (B : Bk) (H : Hp) (Z : AS) (F : FS) (kr : Nat) (Dn : Ends) : Res → Prop
  | .nx ρ' => ∀ σ' H' Z' F', SR K B σ' ρ' H' Z' F' → Ps H Z F H' Z' F' → Dn.nx σ' H'
  | .bk ρ' => ∀ σ' H' Z' F', SR K B σ' ρ' H' Z' F' → Ps H Z F H' Z' F' → Dn.bk σ' H'
  | .ct ρ' => ∀ σ' H' Z' F', SR K B σ' ρ' H' Z' F' → Ps H Z F H' Z' F' → Dn.ct σ' H'
  | .rt d ρ' => ∀ v σ' H' Z' F' T, SR K B σ' ρ' H' Z' F' → Rs H Z F H' Z' F' T → Ow K H' Z' d kr v T → Dn.rt v H'
def spS (K : PySem.W.Frag) (B : Bk) (kr : Nat) (f : Env → Option Res) : TS := fun Dn σ H => ∃ ρ Z F r, SR K B σ ρ H Z F ∧ f ρ = some r ∧ FinS K B H Z F kr Dn r
theorem _root_.L2.PS.imp {X : Cx} {e : Stmt} {t t' : TS} (h : PS X e t) (f : ∀ D σ H, t' D σ H → t D σ H) : PS X e t' := ⟨fun pins s σ H D I q => h.run pins s σ H D I (f _ _ _ q)⟩
theorem _root_.L2.PSs.imp {X : Cx} {e : List Stmt} {t t' : TS} (h : PSs X e t) (f : ∀ D σ H, t' D σ H → t D σ H) : PSs X e t' := ⟨fun pins s σ H D I q => h.run pins s σ H D I (f _ _ _ q)⟩
section
variable {K : PySem.W.Frag} {H H0 H1 H2 : Hp} {Z Z0 Z1 Z2 : AS} {F F0 F1 F2 : FS} {B : Bk} {σ σ' : L2.St} {ρ ρ0 ρ1 ρ' : Env} {kr : Nat} {Dn : Ends}
theorem FinS.pre {r : Res} (h : FinS K B H0 Z0 F0 kr Dn r) (p : Ps H0 Z0 F0 H Z F) : FinS K B H Z F kr Dn r := by
  cases r with
  | nx ρ' => exact fun σ' H' Z' F' s q => h σ' H' Z' F' s (p.trans q)
  | bk ρ' => exact fun σ' H' Z' F' s q => h σ' H' Z' F' s (p.trans q)
  | ct ρ' => exact fun σ' H' Z' F' s q => h σ' H' Z' F' s (p.trans q)
  | rt d ρ' => exact fun v σ' H' Z' F' T s q o => h v σ' H' Z' F' T s (Rs.pre p q) o
/-- a value stored -/
theorem put_any {i : Nat} {d : D} {k : Nat} {v : V} {T : AS} {r : R} (s : SR K B σ ρ H Z F) (h : putR ρ i r = some ρ') (hr : r = mkR k d) (o : Ow K H Z d k v T) (rs : Rs H0 Z0 F0 H Z F T) :
    ∃ F', SR K B (σ.set i (some v)) ρ' H Z F' ∧ Ps H0 Z0 F0 H Z F' := by
  subst hr
  obtain ⟨rfl, hi⟩ := putR_some h
  exact ⟨_, s.put i o rs.tm, rs.put i ρ⟩
end
section
variable {X : Cx} {B : Bk} {C : Calls} {G : Nat → D} {O : Nat → Nat} {k kr : Nat} {pos : Pos} {e ec ea eb : Ex}
theorem asg_fin {i : Nat} {σ : L2.St} {H : Hp} {Dn : Ends} (h : spS X.K B kr (evS C G O (.asg k i e)) Dn σ H) : tAsg (spE X.K B C G e k) (gName i) Dn σ H := by
  obtain ⟨ρ, Z, F, r, s, ev, fin⟩ := h
  simp only [evS] at ev
  obtain ⟨⟨d, ρ1⟩, e1, ev⟩ := Option.bind_eq_some_iff.mp ev
  obtain ⟨ρ2, e2, ev⟩ := Option.bind_eq_some_iff.mp ev
  cases ev
  refine ⟨ρ, Z, F, d, ρ1, s, e1, fun v H' Z' F' T s' r' o => ?_⟩
  obtain ⟨F2, s2, p2⟩ := put_any s' e2 rfl o r'
  exact fin _ _ _ _ s2 p2
theorem s_asg {i : Nat} {x : Str} {ex : Expr} {p : Pos} (hN : X.N.Nodup) (hi : X.N[i]? = some x) (hx : Loc X.env.scope x) (hf : X.fn x = true ∨ X.env.scope.names.lookup x = some .local) (he : PE X ex (spE X.K B C G e k))
    (hs : swapsWithSole [.Name x p] ex pos.line X.env = pure false) (hw : swappedStores [.Name x p] ex X.env = pure none) : PS X (.Assign [.Name x p] ex pos) (spS X.K B kr (evS C G O (.asg k i e))) :=
  (ps_asg he (pg_name hN hi hx hf) hs hw).imp fun Dn σ H h => asg_fin h
theorem s_asgT {ts : Tgs} {es : List Expr} {kk : Nat} {pt : Pos} {ex : Expr} (he : PE X ex (spE X.K B C G e 0)) (hg : PG X (.Tuple es kk pt) (spG X.K B (.tup ts))) (hs : swapsWithSole [.Tuple es kk pt] ex pos.line X.env = pure false) (hw : swappedStores [.Tuple es kk pt] ex X.env = pure none) :
    PS X (.Assign [.Tuple es kk pt] ex pos) (spS X.K B kr (evS C G O (.asgT ts e))) :=
  (ps_asg he hg hs hw).imp fun Dn σ H ⟨ρ, Z, F, r, s, ev, fin⟩ => by
    simp only [evS] at ev
    obtain ⟨⟨d, ρ1⟩, e1, ev⟩ := Option.bind_eq_some_iff.mp ev
    refine ⟨ρ, Z, F, d, ρ1, s, e1, fun v H' Z' F' T s' r' o => ?_⟩
    cases d with
    | tuple l =>
      dsimp only at ev
      obtain ⟨ρ2, e2, ev⟩ := Option.bind_eq_some_iff.mp ev
      cases ev
      refine ⟨ρ1, Z', F', _, ρ2, s', (ow_zero.1 o).1, by simp only [bindT]; exact e2, fun σ2 F2 s2 p2 _ => fin _ _ _ _ s2 (r'.ps.trans p2)⟩
    | list l =>
      dsimp only at ev
      obtain ⟨ρ2, e2, ev⟩ := Option.bind_eq_some_iff.mp ev
      cases ev
      refine ⟨ρ1, Z', F', _, ρ2, s', (ow_zero.1 o).1, by simp only [bindT]; exact e2, fun σ2 F2 s2 p2 _ => fin _ _ _ _ s2 (r'.ps.trans p2)⟩
    | _ => cases ev
theorem s_par {i j : Nat} {x y : Str} {a b : Expr} {px py pt pt2 : Pos} {kt k2 ki kj : Nat} (hc : X.calm = true) (hN : X.N.Nodup) (hi : X.N[i]? = some x) (hj : X.N[j]? = some y) (hij : i ≠ j) (hx : X.env.scope.names.lookup x = some .local) (hy : X.env.scope.names.lookup y = some .local)
    (ha : PE X a (spE X.K B C G ea ki)) (hb : PE X b (spE X.K B C G eb kj)) (st : starEach [a, b] X.env = (false, eval a X.env) :: starEach [b] X.env) (st2 : starEach [b] X.env = (false, eval b X.env) :: starEach [] X.env)
    (hw : swappedStores [.Tuple [.Name x px, .Name y py] kt pt] (.Tuple [a, b] k2 pt2) X.env = pure (some [x, y])) : PS X (.Assign [.Tuple [.Name x px, .Name y py] kt pt] (.Tuple [a, b] k2 pt2) pos) (spS X.K B kr (evS C G O (.par i j ea eb ki kj))) :=
  (ps_par hc hN hi hj hij hx hy (pa_cons ha (pa_cons hb pa_nil st2) st) hw rfl).imp fun Dn σ H ⟨ρ, Z, F, r, s, ev, fin⟩ => by
    simp only [evS] at ev
    obtain ⟨⟨d, ρ1⟩, e1, ev⟩ := Option.bind_eq_some_iff.mp ev
    obtain ⟨⟨d', ρ2⟩, e2, ev⟩ := Option.bind_eq_some_iff.mp ev
    obtain ⟨ρ3, e3, ev⟩ := Option.bind_eq_some_iff.mp ev
    obtain ⟨ρ4, e4, ev⟩ := Option.bind_eq_some_iff.mp ev
    cases ev
    refine ⟨ρ, Z, F, d, ρ1, s, e1, fun v H1 Z1 F1 T1 s1 r1 o1 => ⟨ρ1, Z1, F1, d', ρ2, s1, e2, fun w H2 Z2 F2 T2 s2 r2 o2 => ⟨v, w, rfl, ?_⟩⟩⟩
    have o1' := r2.ps.ow s1 r1.tm o1
    have tm1 := r1.tm.ps r2.ps
    have rs1 : Rs H Z F H2 Z2 F2 T1 := ⟨r1.ps.trans r2.ps, tm1, r1.tf⟩
    have dj : ∀ a, T2 a → ¬ T1 a := fun a z y => by
      obtain ⟨⟨vs, h1⟩, h2, h3⟩ := r1.tm a y
      rcases r2.tf a z with ⟨i, u⟩ | u
      · exact h3 i u
      · rw [h1] at u; cases u
    obtain ⟨rfl, hi3⟩ := putR_some e3
    have s3 := s2.put i (k := ki) (d := d) o1' tm1
    have p3 := rs1.put i ρ2
    have tm2 : Tm H2 Z2 (fun j => if j = i then (if i < ρ2.length then T1 else fun _ => False) else F2 j) T2 := fun a z => by
      obtain ⟨h1, h2, h3⟩ := r2.tm a z
      refine ⟨h1, h2, fun j' y => ?_⟩
      dsimp only at y
      by_cases e1 : j' = i
      · rw [if_pos e1, if_pos hi3] at y
        exact dj a z y
      · rw [if_neg e1] at y
        exact h3 j' y
    have rs2 : Rs H Z F H2 Z2 (fun j => if j = i then (if i < ρ2.length then T1 else fun _ => False) else F2 j) T2 := ⟨p3, tm2, fun a z => by
      rcases r2.tf a z with ⟨i, u⟩ | u
      · exact r1.ps.fn i a u
      · exact .inr (none_of_dom r1.ps.dom u)⟩
    obtain ⟨F5, s5, p5⟩ := put_any s3 e4 rfl o2 rs2
    exact fin _ _ _ _ s5 p5
theorem s_aug {i : Nat} {x : Str} {ex : Expr} {p : Pos} (hN : X.N.Nodup) (hi : X.N[i]? = some x) (hx : Loc X.env.scope x) (hf : X.fn x = true ∨ X.env.scope.names.lookup x = some .local) (he : PE X ex (spE X.K B C G e 0)) :
    PS X (.AugAssign (.Name x p) .Add ex pos) (spS X.K B kr (evS C G O (.aug i e))) :=
  (ps_aug hN hi hx he ip_add hf).imp fun Dn σ H ⟨ρ, Z, F, r, s, ev, fin⟩ => by
    simp only [evS] at ev
    split at ev
    · rename_i a hs
      obtain ⟨⟨d, ρ1⟩, e1, ev⟩ := Option.bind_eq_some_iff.mp ev
      obtain ⟨b, e2, ev⟩ := Option.bind_eq_some_iff.mp ev
      obtain ⟨ρ2, e3, ev⟩ := Option.bind_eq_some_iff.mp ev
      cases ev
      obtain ⟨v0, ev0, f0, _⟩ := s.val hs
      refine ⟨v0, ev0, ρ, Z, F, d, ρ1, s, e1, fun v H' Z' F' T s' r' o => ?_⟩
      cases d <;> cases e2
      refine ⟨a, b, f0, ow_int o, ?_⟩
      obtain ⟨F2, s2, p2⟩ := put_any (k := 0) (v := .int (a + b)) (T := fun _ => False) s' e3 rfl ⟨rfl, fun _ z => z⟩ ⟨r'.ps, Tm.none, fun _ z => z.elim⟩
      exact fin _ _ _ _ s2 p2
    · cases ev
theorem s_expr {ex : Expr} (he : PE X ex (spE X.K B C G e 0)) (hs : swapsWith ex none pos.line X.env = pure false) : PS X (.Expr ex pos) (spS X.K B kr (evS C G O (.expr e))) :=
  (ps_expr he hs).imp fun Dn σ H ⟨ρ, Z, F, r, s, ev, fin⟩ => by
    simp only [evS] at ev
    obtain ⟨⟨d, ρ1⟩, e1, ev⟩ := Option.bind_eq_some_iff.mp ev
    cases ev
    exact ⟨ρ, Z, F, d, ρ1, s, e1, fun v H' Z' F' T s' r' o => fin _ _ _ _ s' r'.ps⟩
theorem s_ret {ex : Expr} (he : PE X ex (spE X.K B C G e kr)) : PS X (.Return (some ex) pos) (spS X.K B kr (evS C G O (.ret e))) :=
  (ps_ret he).imp fun Dn σ H ⟨ρ, Z, F, r, s, ev, fin⟩ => by
    simp only [evS] at ev
    obtain ⟨⟨d, ρ1⟩, e1, ev⟩ := Option.bind_eq_some_iff.mp ev
    cases ev
    exact ⟨ρ, Z, F, d, ρ1, s, e1, fun v H' Z' F' T s' r' o => fin v σ H' Z' F' T s' r' o⟩
theorem s_retN : PS X (.Return none pos) (spS X.K B kr (evS C G O .retN)) :=
  ps_retN.imp fun Dn σ H ⟨ρ, Z, F, r, s, ev, fin⟩ => by
    simp only [evS] at ev
    cases ev
    exact fin .non σ H Z F (fun _ => False) s (Rs.refl fun _ z => z) ⟨rfl, fun _ z => z⟩
theorem s_pass : PS X (.Pass pos) (spS X.K B kr (evS C G O .pass)) :=
  ps_pass.imp fun Dn σ H ⟨ρ, Z, F, r, s, ev, fin⟩ => by
    simp only [evS] at ev
    cases ev
    exact fin σ H Z F s Ps.refl
theorem s_brk : PS X (.Break pos) (spS X.K B kr (evS C G O .brk)) :=
  ps_break.imp fun Dn σ H ⟨ρ, Z, F, r, s, ev, fin⟩ => by
    simp only [evS] at ev
    cases ev
    exact fin σ H Z F s Ps.refl
theorem s_cont : PS X (.Continue pos) (spS X.K B kr (evS C G O .cont)) :=
  ps_continue.imp fun Dn σ H ⟨ρ, Z, F, r, s, ev, fin⟩ => by
    simp only [evS] at ev
    cases ev
    exact fin σ H Z F s Ps.refl
/-! ### blocks -/
theorem ss_nil : PSs X [] (spS X.K B kr (evSs C G O .nil)) :=
  pss_nil.imp fun Dn σ H ⟨ρ, Z, F, r, s, ev, fin⟩ => by
    simp only [evSs] at ev
    cases ev
    exact fin σ H Z F s Ps.refl
theorem ss_cons {st : Stmt} {sts : List Stmt} {a : Sm} {as : Sms} (h1 : PS X st (spS X.K B kr (evS C G O a))) (h2 : PSs X sts (spS X.K B kr (evSs C G O as))) : PSs X (st :: sts) (spS X.K B kr (evSs C G O (.cons a as))) :=
  (pss_cons h1 h2).imp fun Dn σ H ⟨ρ, Z, F, r, s, ev, fin⟩ => by
    simp only [evSs] at ev
    obtain ⟨r1, e1, ev⟩ := Option.bind_eq_some_iff.mp ev
    refine ⟨ρ, Z, F, r1, s, e1, ?_⟩
    cases r1 with
    | nx ρ1 => exact fun σ' H' Z' F' s' p => ⟨ρ1, Z', F', r, s', ev, fin.pre p⟩
    | bk ρ1 => cases ev; exact fin
    | ct ρ1 => cases ev; exact fin
    | rt d ρ1 => cases ev; exact fin
theorem kills_fin {K : PySem.W.Frag} {H : Hp} {Z : AS} {F : FS} {Dn : Ends} {ks : List Nat} {r : Res} (h : FinS K B H Z F kr Dn (killR ks r)) : FinS K B H Z F kr Dn r := by
  cases r with
  | nx ρ' => exact fun σ' H' Z' F' s p => h σ' H' Z' _ (s.kill ks rfl fun _ _ => rfl) (p.trans (Ps.kill ks))
  | bk ρ' => exact fun σ' H' Z' F' s p => h σ' H' Z' _ (s.kill ks rfl fun _ _ => rfl) (p.trans (Ps.kill ks))
  | ct ρ' => exact fun σ' H' Z' F' s p => h σ' H' Z' _ (s.kill ks rfl fun _ _ => rfl) (p.trans (Ps.kill ks))
  | rt d ρ' => exact h
theorem s_if {c : Expr} {a b : List Stmt} {sa sb : Sms} {ks : List Nat} (hc : PT X c (spT X.K B (evE C G ec))) (ha : PSs X a (spS X.K B kr (evSs C G O sa))) (hb : PSs X b (spS X.K B kr (evSs C G O sb))) : PS X (.If c a b pos) (spS X.K B kr (evS C G O (.ite ec sa sb ks))) :=
  (ps_if hc ha hb).imp fun Dn σ H ⟨ρ, Z, F, r, s, ev, fin⟩ => by
    simp only [evS] at ev
    obtain ⟨⟨d, ρ1⟩, e1, ev⟩ := Option.bind_eq_some_iff.mp ev
    obtain ⟨z, e2, ev⟩ := Option.bind_eq_some_iff.mp ev
    cases d <;> cases e2
    refine ⟨ρ, Z, F, z, ρ1, s, e1, fun H' Z' F' s' p => ?_⟩
    cases z with
    | true =>
      simp only [if_true] at ev
      obtain ⟨r1, e3, ev⟩ := Option.bind_eq_some_iff.mp ev
      cases ev
      exact iteT ⟨ρ1, Z', F', r1, s', e3, (kills_fin fin).pre p⟩
    | false =>
      simp only [Bool.false_eq_true, if_false] at ev
      obtain ⟨r1, e3, ev⟩ := Option.bind_eq_some_iff.mp ev
      cases ev
      exact iteF ⟨ρ1, Z', F', r1, s', e3, (kills_fin fin).pre p⟩
/-! ### loops -/
theorem s_for {t : Tg} {it : It} {tg iter : Expr} {b : List Stmt} {sb : Sms} {ks : List Nat} (hp : PassesOwn (model X.prog X.w) X.A X.env X.xe) (hc : X.calm = true) (hi : PI X tg iter (spI X.K B (evI C G it))) (hg : PG X tg (spG X.K B t)) (hb : PSs X b (spS X.K B kr (evSs C G O sb)))
    (hs : ∀ x, foldedSetIterable iter X.env x = pure x) : PS X (.For tg iter b [] pos) (spS X.K B kr (evS C G O (.for_ t it sb ks))) :=
  (ps_for hp hc hi hg hb hs).imp fun Dn σ H ⟨ρ, Z, F, r, s, ev, fin⟩ => by
    simp only [evS] at ev
    obtain ⟨⟨ds, ρ1⟩, e1, ev⟩ := Option.bind_eq_some_iff.mp ev
    refine ⟨ρ, Z, F, ds, ρ1, s, e1, fun J H1 Z1 F1 s1 p1 wk => ?_⟩
    refine ⟨fun i m σ2 H2 => m = ds.length - i ∧ i ≤ ds.length ∧ ∃ ρi Z2 F2, SR X.K B σ2 ρi H2 Z2 F2 ∧ Ps H1 Z1 F1 H2 Z2 F2 ∧ forL (fun d ρ => (bindT t d ρ).bind fun ρ' => evSs C G O sb ρ') ks (ds.drop i) ρi = some r, ⟨ds.length, by simp, Nat.zero_le _, kills ρ1 ks, Z1, dropF F1 ks, s1.kill ks rfl fun _ _ => rfl, Ps.kill ks, by simpa using ev⟩, ?_⟩
    rintro i m σ2 H2 ⟨rfl, hi2, ρi, Z2, F2, s2, p2, ef⟩
    have kp : Kp H1 Z1 H2 := ps_kp s1 p2
    by_cases hlt : i < ds.length
    · right
      obtain ⟨g1, g2⟩ := wk.go s2 kp p2.zz i hlt
      refine ⟨g1, fun σ' H' => ∃ ρi Z2 F2, SR X.K B σ' ρi H' Z2 F2 ∧ Ps H1 Z1 F1 H' Z2 F2 ∧ forL (fun d ρ => (bindT t d ρ).bind fun ρ' => evSs C G O sb ρ') ks (ds.drop (i + 1)) ρi = some r, fun σ' H' w => ⟨ds.length - (i + 1), by omega, rfl, hlt, w⟩, fun x Hy yl => ?_⟩
      obtain ⟨sy, py, fy⟩ := g2 x Hy yl
      rw [List.drop_eq_getElem_cons hlt] at ef
      simp only [forL] at ef
      obtain ⟨r1, ef1, ef2⟩ := Option.bind_eq_some_iff.mp ef
      obtain ⟨ρt, et, ef3⟩ := Option.bind_eq_some_iff.mp ef1
      refine ⟨ρi, Z2, F2, _, ρt, sy, fy, et, fun σ3 F3 s3 p3 _ => ⟨ρt, Z2, F3, r1, s3, ef3, ?_⟩⟩
      have base : Ps H1 Z1 F1 Hy Z2 F3 := p2.trans (py.trans p3)
      cases r1 with
      | nx ρ' => exact fun σ' H' Z' F' s' p => ⟨_, Z', _, s'.kill ks rfl fun _ _ => rfl, (base.trans p).trans (Ps.kill ks), ef2⟩
      | ct ρ' => exact fun σ' H' Z' F' s' p => ⟨_, Z', _, s'.kill ks rfl fun _ _ => rfl, (base.trans p).trans (Ps.kill ks), ef2⟩
      | bk ρ' =>
        cases ef2
        exact fun σ' H' Z' F' s' p => fin σ' H' Z' _ (s'.kill ks rfl fun _ _ => rfl) ((p1.trans (base.trans p)).trans (Ps.kill ks))
      | rt d ρ' =>
        cases ef2
        exact fun v σ' H' Z' F' T s' p o => fin v σ' H' Z' F' T s' (Rs.pre (p1.trans base) p) o
    · left
      have e : i = ds.length := by omega
      subst e
      rw [List.drop_length] at ef
      simp only [forL] at ef
      cases ef
      exact ⟨wk.stop kp, fin σ2 H2 Z2 F2 s2 (p1.trans p2)⟩
theorem s_whl {c : Expr} {b : List Stmt} {sb : Sms} {ks : List Nat} (hp : PassesOwn (model X.prog X.w) X.A X.env X.xe) (hc : PT X c (spT X.K B (evE C G ec))) (hb : PSs X b (spS X.K B kr (evSs C G O sb))) : PS X (.While c b [] pos) (spS X.K B kr (evS C G O (.whl ec sb ks))) :=
  (ps_while hp hc hb).imp fun Dn σ H ⟨ρ, Z, F, r, s, ev, fin⟩ => by
    simp only [evS] at ev
    refine ⟨fun m σ2 H2 => ∃ ρi Z2 F2, SR X.K B σ2 ρi H2 Z2 F2 ∧ Ps H Z F H2 Z2 F2 ∧ whlL (evE C G ec) (evSs C G O sb) ks m ρi = some r, ⟨whlMax, kills ρ ks, Z, dropF F ks, s.kill ks rfl fun _ _ => rfl, Ps.kill ks, ev⟩, ?_⟩
    rintro m σ2 H2 ⟨ρi, Z2, F2, s2, p2, ef⟩
    cases m with
    | zero => simp only [whlL] at ef; cases ef
    | succ m =>
      simp only [whlL] at ef
      obtain ⟨⟨d, ρ1⟩, e1, ef1⟩ := Option.bind_eq_some_iff.mp ef
      obtain ⟨z, e2, ef2⟩ := Option.bind_eq_some_iff.mp ef1
      clear ef ef1
      cases d <;> cases e2
      refine ⟨ρi, Z2, F2, z, ρ1, s2, e1, fun H3 Z3 F3 s3 p3 => ?_⟩
      cases z with
      | true =>
        simp only [if_true] at ef2
        obtain ⟨r1, e3, ef3⟩ := Option.bind_eq_some_iff.mp ef2
        refine iteT ⟨fun σ' H' => ∃ ρi Z2 F2, SR X.K B σ' ρi H' Z2 F2 ∧ Ps H Z F H' Z2 F2 ∧ whlL (evE C G ec) (evSs C G O sb) ks m ρi = some r, fun σ' H' w => ⟨m, Nat.lt_succ_self m, w⟩, ρ1, Z3, F3, r1, s3, e3, ?_⟩
        have base : Ps H Z F H3 Z3 F3 := p2.trans p3
        cases r1 with
        | nx ρ' => exact fun σ' H' Z' F' s' p => ⟨_, Z', _, s'.kill ks rfl fun _ _ => rfl, (base.trans p).trans (Ps.kill ks), ef3⟩
        | ct ρ' => exact fun σ' H' Z' F' s' p => ⟨_, Z', _, s'.kill ks rfl fun _ _ => rfl, (base.trans p).trans (Ps.kill ks), ef3⟩
        | bk ρ' =>
          cases ef3
          exact fun σ' H' Z' F' s' p => fin σ' H' Z' _ (s'.kill ks rfl fun _ _ => rfl) ((base.trans p).trans (Ps.kill ks))
        | rt d ρ' =>
          cases ef3
          exact fun v σ' H' Z' F' T s' p o => fin v σ' H' Z' F' T s' (Rs.pre base p) o
      | false =>
        simp only [Bool.false_eq_true, if_false] at ef2
        cases ef2
        exact iteF (fin σ2 H3 Z3 F3 s3 (p2.trans p3))
end
end
end BW

/-! BwE12: lists that are changed. -/
namespace BW
noncomputable section
open PySem PySem.Spec PyProof.Rows L2
def PathV (H : Hp) : V → List Int → V → Prop
  | v, [], w => w = v
  | v, i :: is, w => ∃ p xs u, v = .ref p ∧ H p = some (.lst xs) ∧ atI xs i = some u ∧ PathV H u is w
def atsI (ρ : Env) : List At → Option (List Int)
  | [] => some []
  | a :: p => (atI? ρ a).bind fun n => (atsI ρ p).map (n :: ·)
section
variable {K : PySem.W.Frag} {H H0 H1 H2 H' : Hp} {Z Z0 Z1 Z2 Z' : AS} {F F0 F1 F2 : FS} {B : Bk} {σ σ' : L2.St} {ρ ρ0 ρ1 ρ' : Env}
/-- an item of an owned list, and another one in its place -/
theorem OwL.at {k : Nat} {e : D} : ∀ {l : List D} {vs : List V} {T : AS} {j : Nat}, OwL K H Z l k vs T → l[j]? = some e → ∃ u Tj, vs[j]? = some u ∧ Ow K H Z e k u Tj ∧ (∀ b, Tj b → T b) ∧
    ∀ {H' : Hp} {Z' : AS} {e' : D} {u' : V} {Tn : AS}, (∀ a, Z a → Z' a) → (∀ a o, H a = some o → (Z a ∨ (T a ∧ ¬ Tj a) ∨ ∀ xs, o ≠ .lst xs) → H' a = some o) → Ow K H' Z' e' k u' Tn → (∀ b, Tn b → Tj b ∨ ¬ T b) →
      OwL K H' Z' (l.set j e') k (vs.set j u') (fun b => (T b ∧ ¬ Tj b) ∨ Tn b)
  | [], _, _, _, _, h => by simp at h
  | d :: ds, _, T, 0, o, h => by
    unfold OwL at o
    obtain ⟨v, ws, T1, T2, rfl, h1, h2, dj, t⟩ := o
    simp at h
    subst h
    refine ⟨v, T1, rfl, h1, fun b z => (t b).2 (.inl z), fun {H' Z' e' u' Tn} zz kp on sub => ?_⟩
    show OwL K H' Z' (e' :: ds) k (u' :: ws) _
    unfold OwL
    refine ⟨u', ws, Tn, T2, rfl, on, h2.mono zz fun a o e z => kp a o e (z.elim .inl fun z => .inr (z.elim (fun z => .inl ⟨(t a).2 (.inr z), fun y => dj a y z⟩) .inr)), fun a z y => ?_, fun a => ?_⟩
    · rcases sub a z with z | z
      · exact dj a z y
      · exact z ((t a).2 (.inr y))
    · constructor
      · rintro (⟨z, n⟩ | z)
        · exact .inr (((t a).1 z).resolve_left n)
        · exact .inl z
      · rintro (z | z)
        · exact .inr z
        · exact .inl ⟨(t a).2 (.inr z), fun y => dj a y z⟩
  | d :: ds, _, T, j + 1, o, h => by
    unfold OwL at o
    obtain ⟨v, ws, T1, T2, rfl, h1, h2, dj, t⟩ := o
    obtain ⟨u, Tj, e1, o1, sub1, put⟩ := OwL.at h2 (j := j) (by simpa using h)
    refine ⟨u, Tj, by simpa using e1, o1, fun b z => (t b).2 (.inr (sub1 b z)), fun {H' Z' e' u' Tn} zz kp on sub => ?_⟩
    have q := put zz (fun a o e z => kp a o e (z.elim .inl fun z => .inr (z.elim (fun z => .inl ⟨(t a).2 (.inr z.1), z.2⟩) .inr))) on fun b z => (sub b z).imp id fun z y => z ((t b).2 (.inr y))
    show OwL K H' Z' (d :: ds.set j e') k (v :: ws.set j u') _
    unfold OwL
    refine ⟨v, ws.set j u', T1, _, rfl, h1.mono zz fun a o e z => kp a o e (z.elim .inl fun z => .inr (z.elim (fun z => .inl ⟨(t a).2 (.inl z), fun y => dj a z (sub1 a y)⟩) .inr)), q, fun a z y => ?_, fun a => ?_⟩
    · rcases y with ⟨y, _⟩ | y
      · exact dj a z y
      · rcases sub a y with y | y
        · exact dj a z (sub1 a y)
        · exact y ((t a).2 (.inl z))
    · constructor
      · rintro (⟨z, n⟩ | z)
        · rcases (t a).1 z with z | z
          · exact .inl z
          · exact .inr (.inl ⟨z, n⟩)
        · exact .inr (.inr z)
      · rintro (z | ⟨z, n⟩ | z)
        · exact .inl ⟨(t a).2 (.inl z), fun y => dj a z (sub1 a y)⟩
        · exact .inl ⟨(t a).2 (.inr z), n⟩
        · exact .inr z
theorem list_set_self {α : Type} : ∀ {l : List α} {j : Nat} {u : α}, l[j]? = some u → l.set j u = l
  | [], _, _, h => by simp at h
  | a :: l, 0, u, h => by simp at h; subst h; rfl
  | a :: l, j + 1, u, h => by
    rw [List.set_cons_succ, list_set_self (by simpa using h)]
/-- an owned list's inner list changed -/
theorem chg_ow {f : Nat → List D → Option (List D)} : ∀ {p : List At} {k : Nat} {d d' : D} {v : V} {T : AS}, Ow K H Z d k v T → chgP ρ f p k d = some d' → ∃ is a vs l kk Ti l', atsI ρ p = some is ∧ PathV H v is (.ref a) ∧ H a = some (.lst vs) ∧ T a ∧ OwL K H Z l kk vs Ti ∧ ¬ Ti a ∧ (∀ b, Ti b → T b) ∧ f kk l = some l' ∧ k = kk + 1 + p.length ∧
    ∀ {H' : Hp} {Z' : AS} {vs' : List V} {Tn : AS}, (∀ b, Z b → Z' b) → H' a = some (.lst vs') → (∀ b o, H b = some o → b ≠ a → (Z b ∨ (T b ∧ ¬ Ti b) ∨ ∀ xs, o ≠ .lst xs) → H' b = some o) → OwL K H' Z' l' kk vs' Tn → ¬ Tn a → (∀ b, Tn b → Ti b ∨ ¬ T b) → ¬ Z a →
      Ow K H' Z' d' k v (fun b => (T b ∧ ¬ Ti b) ∨ Tn b)
  | [], k, d, d', v, T, o, e => by
    cases d with
    | list l =>
      cases k with
      | zero => cases e
      | succ k =>
        obtain ⟨l', e1, rfl⟩ := Option.map_eq_some_iff.mp e
        unfold Ow at o
        obtain ⟨a, vs, T', rfl, ha, na, ol, t⟩ := o
        refine ⟨[], a, vs, l, k, T', l', rfl, rfl, ha, (t a).2 (.inl rfl), ol, na, fun b z => (t b).2 (.inr z), e1, rfl, fun {H' Z' vs' Tn} zz ha' kp on nn sub nz => ?_⟩
        unfold Ow
        refine ⟨a, vs', Tn, rfl, ha', nn, on, fun b => ?_⟩
        constructor
        · rintro (⟨z, n⟩ | z)
          · exact .inl (((t b).1 z).resolve_right n)
          · exact .inr z
        · rintro (rfl | z)
          · exact .inl ⟨(t _).2 (.inl rfl), na⟩
          · exact .inr z
    | _ => cases k <;> cases e
  | x :: p, k, d, d', v, T, o, e => by
    cases k with
    | zero => cases d <;> cases e
    | succ k =>
      cases d with
      | list l =>
        simp only [chgP] at e
        obtain ⟨n, e1, e⟩ := Option.bind_eq_some_iff.mp e
        obtain ⟨j, e2, e⟩ := Option.bind_eq_some_iff.mp e
        obtain ⟨d1, e3, e⟩ := Option.bind_eq_some_iff.mp e
        obtain ⟨d2, e4, rfl⟩ := Option.map_eq_some_iff.mp e
        unfold Ow at o
        obtain ⟨b, ws, T', rfl, hb, nb, ol, t⟩ := o
        obtain ⟨u, Tj, g1, g2, g3, put⟩ := ol.at e3
        obtain ⟨is, a, vs, l0, kk, Ti, l', c1, c2, c3, c4, c5, c6, c7, c8, c9, c10⟩ := chg_ow g2 e4
        have nab : a ≠ b := by
          rintro rfl
          exact nb (g3 _ c4)
        refine ⟨n :: is, a, vs, l0, kk, Ti, l', by simp [atsI, e1, c1], ⟨b, ws, u, rfl, hb, ?_, c2⟩, c3, (t a).2 (.inr (g3 a c4)), c5, c6, fun y z => (t y).2 (.inr (g3 y (c7 y z))), c8, by rw [c9, List.length_cons]; omega, fun {H' Z' vs' Tn} zz ha' kp on nn sub nz => ?_⟩
        · unfold atI
          rw [← owL_len ol, show ixN _ _ = _ from e2]
          exact g1
        · have kp' : ∀ y o, H y = some o → y ≠ a → (Z y ∨ (Tj y ∧ ¬ Ti y) ∨ ∀ xs, o ≠ .lst xs) → H' y = some o := fun y o e ne z => kp y o e ne (z.elim .inl fun z => .inr (z.elim (fun z => .inl ⟨(t y).2 (.inr (g3 y z.1)), z.2⟩) .inr))
          have q := c10 zz ha' kp' on nn (fun y z => (sub y z).imp id fun z h => z ((t y).2 (.inr (g3 y h)))) nz
          have olb := put (H' := H') (Z' := Z') (e' := d2) (u' := u) zz (fun y o e z => by
            by_cases ne : y = a
            · subst ne
              rcases z with z | z | z
              · exact absurd z nz
              · exact absurd c4 z.2
              · rw [c3] at e; cases e; exact absurd rfl (z _)
            · refine kp y o e ne (z.elim .inl fun z => .inr (z.elim (fun z => .inl ⟨(t y).2 (.inr z.1), fun h => z.2 (c7 y h)⟩) .inr))) q fun y z => by
              rcases z with z | z
              · exact .inl z.1
              · rcases sub y z with z | z
                · exact .inl (c7 y z)
                · exact .inr fun h => z ((t y).2 (.inr h))
          rw [list_set_self g1] at olb
          unfold Ow
          refine ⟨b, ws, _, rfl, kp b _ hb nab.symm (.inr (.inl ⟨(t b).2 (.inl rfl), fun h => nb (g3 b (c7 b h))⟩)), ?_, olb, fun y => ?_⟩
          · rintro (z | z | z)
            · exact nb z.1
            · exact nb (g3 b z.1)
            · rcases sub b z with z | z
              · exact nb (g3 b (c7 b z))
              · exact z ((t b).2 (.inl rfl))
          · constructor
            · rintro (⟨z, h⟩ | z)
              · rcases (t y).1 z with z | z
                · exact .inl z
                · by_cases hj : Tj y
                  · exact .inr (.inr (.inl ⟨hj, h⟩))
                  · exact .inr (.inl ⟨z, hj⟩)
              · exact .inr (.inr (.inr z))
            · rintro (rfl | ⟨z, h⟩ | ⟨z, h⟩ | z)
              · exact .inl ⟨(t _).2 (.inl rfl), fun h => nb (g3 _ (c7 _ h))⟩
              · exact .inl ⟨(t y).2 (.inr z), fun q => h (c7 y q)⟩
              · exact .inl ⟨(t y).2 (.inr (g3 y z)), h⟩
              · exact .inr z
      | _ => cases e
/-- along a path of lists, looking on -/
theorem walk_ow : ∀ {p : List At} {k k' : Nat} {d d' : D} {v : V} {T : AS}, Ow K H Z d k v T → walkP ρ p k d = some (k', d') → ∃ is w T', atsI ρ p = some is ∧ PathV H v is w ∧ Ow K H Z d' k' w T'
  | [], k, k', d, d', v, T, o, e => by
    cases e
    exact ⟨[], v, T, rfl, rfl, o⟩
  | x :: p, k, k', d, d', v, T, o, e => by
    cases d with
    | list l =>
      simp only [walkP] at e
      obtain ⟨n, e1, e⟩ := Option.bind_eq_some_iff.mp e
      obtain ⟨j, e2, e⟩ := Option.bind_eq_some_iff.mp e
      obtain ⟨d1, e3, e⟩ := Option.bind_eq_some_iff.mp e
      cases k with
      | zero =>
        obtain ⟨b, ws, rfl, hb, fl⟩ := seq_of_ow o (Nat.zero_le 1)
        obtain ⟨u, g1, g2⟩ := fl.get e3
        obtain ⟨is, w, T', c1, c2, c3⟩ := walk_ow (ow_zero.2 ⟨g2, fun _ z => z⟩ : Ow K H Z d1 0 u fun _ => False) e
        refine ⟨n :: is, w, T', by simp [atsI, e1, c1], ⟨b, ws, u, rfl, hb, ?_, c2⟩, c3⟩
        unfold atI
        rw [← fl.length, show ixN _ _ = _ from e2]
        exact g1
      | succ k =>
        unfold Ow at o
        obtain ⟨b, ws, T', rfl, hb, nb, ol, t⟩ := o
        obtain ⟨u, Tj, g1, g2, g3, _⟩ := ol.at e3
        obtain ⟨is, w, T'', c1, c2, c3⟩ := walk_ow g2 e
        refine ⟨n :: is, w, T'', by simp [atsI, e1, c1], ⟨b, ws, u, rfl, hb, ?_, c2⟩, c3⟩
        unfold atI
        rw [← owL_len ol, show ixN _ _ = _ from e2]
        exact g1
    | _ => cases e
theorem pathV_snoc : ∀ {is : List Int} {v w : V} {n : Int}, PathV H v (is ++ [n]) w → ∃ p xs, PathV H v is (.ref p) ∧ H p = some (.lst xs) ∧ atI xs n = some w
  | [], v, w, n, h => by
    obtain ⟨p, xs, u, rfl, h1, h2, rfl⟩ := h
    exact ⟨p, xs, rfl, h1, h2⟩
  | i :: is, v, w, n, h => by
    obtain ⟨p, xs, u, rfl, h1, h2, h3⟩ := h
    obtain ⟨q, ys, g1, g2, g3⟩ := pathV_snoc h3
    exact ⟨q, ys, ⟨p, xs, u, rfl, h1, h2, g1⟩, g2, g3⟩
theorem atsI_snoc : ∀ {p : List At} {a : At} {is : List Int}, atsI ρ (p ++ [a]) = some is → ∃ js n, atsI ρ p = some js ∧ atI? ρ a = some n ∧ is = js ++ [n]
  | [], a, is, h => by
    simp only [List.nil_append, atsI] at h
    obtain ⟨n, h1, h2⟩ := Option.bind_eq_some_iff.mp h
    cases h2
    exact ⟨[], n, rfl, h1, rfl⟩
  | b :: p, a, is, h => by
    simp only [List.cons_append, atsI] at h
    obtain ⟨m, h1, h2⟩ := Option.bind_eq_some_iff.mp h
    obtain ⟨js, h3, rfl⟩ := Option.map_eq_some_iff.mp h2
    obtain ⟨ks, n, g1, g2, rfl⟩ := atsI_snoc h3
    exact ⟨m :: ks, n, by simp [atsI, h1, g1], g2, rfl⟩
end
section
variable {X : Cx} {B : Bk} {C : Calls} {G : Nat → D} {O : Nat → Nat} {k kr : Nat} {pos : Pos} {e ec ea eb : Ex}
/-- an index that is a name or a number -/
def spAt (K : PySem.W.Frag) (B : Bk) (a : At) : TE := fun σ H Q => ∃ ρ Z F n, SR K B σ ρ H Z F ∧ atI? ρ a = some n ∧ Q (.int n) H
theorem at_n {n : Int} {j : Nat} : PE X (.Constant (.int n) j pos) (spAt X.K B (.n n)) := pe_int.imp fun σ H Q ⟨ρ, Z, F, m, s, e, q⟩ => by
  cases e
  exact q
theorem at_neg {m : Int} {j : Nat} {p1 : Pos} : PE X (.UnaryOp .USub (.Constant (.int m) j p1) pos) (spAt X.K B (.n (-m))) := (pe_un un_negN pe_int).imp fun σ H Q ⟨ρ, Z, F, n, s, e, q⟩ => by
  cases e
  exact .inl ⟨m, rfl, q⟩
theorem at_v {i : Nat} {x : Str} (hN : X.N[i]? = some x) (hv : Vis X.env.scope x) (hd : (x == ("__debug__" : Str)) = false) (hcd : (x == ("__classdict__" : Str)) = false) : PE X (.Name x pos) (spAt X.K B (.v i)) :=
  (pe_var hN hv hd hcd).imp fun σ H Q ⟨ρ, Z, F, m, s, e, q⟩ => by
    unfold atI? at e
    rw [show atV ρ (.v i) = (match slot ρ i with
      | .val d => some d
      | _ => none) from rfl] at e
    cases hs : slot ρ i with
    | val d =>
      rw [hs] at e
      obtain ⟨v, ev, f, _⟩ := s.val hs
      cases d <;> cases e
      exact ⟨v, ev, by rw [show v = .int m from f]; exact q⟩
    | un => rw [hs] at e; cases e
    | own k d => rw [hs] at e; cases e
    | io k d => rw [hs] at e; cases e
    | scr d => rw [hs] at e; cases e
    | exc d => rw [hs] at e; cases e
def spPth (K : PySem.W.Frag) (B : Bk) (i : Nat) (p : List At) : TE := fun σ H Q => ∃ ρ Z F, SR K B σ ρ H Z F ∧ ∃ is v w, atsI ρ p = some is ∧ σ[i]? = some (some v) ∧ PathV H v is w ∧ Q w H
theorem pth_nil {i : Nat} {x : Str} (hN : X.N[i]? = some x) (hv : Vis X.env.scope x) (hd : (x == ("__debug__" : Str)) = false) (hcd : (x == ("__classdict__" : Str)) = false) : PE X (.Name x pos) (spPth X.K B i []) :=
  (pe_var hN hv hd hcd).imp fun σ H Q ⟨ρ, Z, F, s, is, v, w, e, ev, pv, q⟩ => by
    cases e
    cases pv
    exact ⟨_, ev, q⟩
theorem pth_snoc {i : Nat} {p : List At} {a : At} {ex ax : Expr} (h : PE X ex (spPth X.K B i p)) (ha : PE X ax (spAt X.K B a)) (hs : PlainIx ax) : PE X (.Subscript ex ax pos) (spPth X.K B i (p ++ [a])) :=
  (pe_ix ix_list h ha hs).imp fun σ H Q ⟨ρ, Z, F, s, is, v, w, e, ev, pv, q⟩ => by
    obtain ⟨js, n, h1, h2, rfl⟩ := atsI_snoc e
    obtain ⟨b, xs, g1, g2, g3⟩ := pathV_snoc pv
    exact ⟨ρ, Z, F, s, js, v, _, h1, ev, g1, ρ, Z, F, n, s, h2, b, xs, n, w, rfl, rfl, .inl (.inl g2), g3, q⟩
theorem s_pth {i : Nat} {p : List At} {ex : Expr} (h : PE X ex (spPth X.K B i p)) : PE X ex (spE X.K B C G (.pth i p) 0) :=
  h.imp fun σ H Q ⟨ρ, Z, F, d, ρ', s, e, q⟩ => by
    simp only [evE] at e
    obtain ⟨⟨k1, x⟩, e1, e⟩ := Option.bind_eq_some_iff.mp e
    obtain ⟨⟨k2, y⟩, e2, e⟩ := Option.bind_eq_some_iff.mp e
    dsimp only at e
    split at e
    · rename_i hk
      subst hk
      cases e
      obtain ⟨v, ev, o⟩ := s.view e1
      obtain ⟨is, w, T', c1, c2, c3⟩ := walk_ow o e2
      exact ⟨ρ, Z, F, s, is, v, w, c1, ev, c2, kn_fz q s (ow_zero.1 c3).1⟩
    · cases e
theorem u_pth {i : Nat} {p : List At} {ex : Expr} (h : PE X ex (spPth X.K B i p)) : PE X ex (spU X.K B (o1X C G (.pth i p))) :=
  h.imp fun σ H Q ⟨ρ, Z, F, kd, ρ', s, e, q⟩ => by
    simp only [op1] at e
    obtain ⟨⟨k1, x⟩, e1, e⟩ := Option.bind_eq_some_iff.mp e
    obtain ⟨⟨k2, y⟩, e2, e⟩ := Option.bind_eq_some_iff.mp e
    cases e
    obtain ⟨v, ev, o⟩ := s.view e1
    obtain ⟨is, w, T', c1, c2, c3⟩ := walk_ow o e2
    exact ⟨ρ, Z, F, s, is, v, w, c1, ev, c2, q w H Z F T' s Ps.refl c3⟩
end
end
end BW

/-! BwE13: writes into owned lists. -/
namespace BW
noncomputable section
open PySem PySem.Spec PyProof.Rows L2
section
variable {K : PySem.W.Frag} {H H0 H1 H2 H' : Hp} {Z Z0 Z1 Z2 Z' : AS} {F F0 F1 F2 : FS} {B : Bk} {σ σ' : L2.St} {ρ ρ0 ρ1 ρ' : Env}
abbrev dropAt (F : FS) (i : Nat) : FS := fun j => if j = i then fun _ => False else F j
theorem dropAt_ne {i j : Nat} {a : Addr} (h : dropAt F i j a) : j ≠ i ∧ F j a := by
  unfold dropAt at h
  by_cases e : j = i
  · rw [if_pos e] at h; exact h.elim
  · rw [if_neg e] at h; exact ⟨e, h⟩
theorem wr_core {i k : Nat} {d d' : D} {v : V} {p : List At} {f : Nat → List D → Option (List D)} (s0 : SR K B σ ρ H Z F) (ev : σ[i]? = some (some v)) (o : Ow K H Z d k v (F i)) (hc : chgP ρ f p k d = some d') :
    ∃ is a vs l kk Ti l', atsI ρ p = some is ∧ PathV H v is (.ref a) ∧ H a = some (.lst vs) ∧ F i a ∧ OwL K H Z l kk vs Ti ∧ f kk l = some l' ∧ k = kk + 1 + p.length ∧
      ∀ {H1 : Hp} {Z1 : AS} {F1 : FS} {ρ1 : Env} {T : AS} {H0 : Hp} {Z0 : AS} {F0 : FS}, Ps H0 Z0 F0 H Z F → SR K B σ ρ1 H1 Z1 F1 → Ps H Z (dropAt F i) H1 Z1 F1 → Tm H1 Z1 F1 T → (∀ a, T a → ¬ F i a) → (∀ a, T a → (∃ j, F0 j a) ∨ H0 a = none) →
        H1 a = some (.lst vs) ∧ OwL K H1 Z1 l kk vs Ti ∧ (∀ b, T b → ¬ Ti b) ∧ vs.length ≤ sizeLine ∧
        ∀ {vs' : List V} {Tn : AS} {r' : R}, OwL K H1 Z1 l' kk vs' Tn → (∀ b, Tn b → Ti b ∨ T b) → vs'.length ≤ sizeLine → (r' = .own k d' ∨ (r' = .io k d' ∧ B i = σ[i]?)) → ∃ F', SR K B σ (ρ1.set i r') (upd H1 a (.lst vs')) Z1 F' ∧ Ps H0 Z0 F0 (upd H1 a (.lst vs')) Z1 F' := by
  obtain ⟨is, a, vs, l, kk, Ti, l', c1, c2, c3, c4, c5, c6, c7, c8, c9, c10⟩ := chg_ow o hc
  refine ⟨is, a, vs, l, kk, Ti, l', c1, c2, c3, c4, c5, c8, c9, fun {H1 Z1 F1 ρ1 T H0 Z0 F0} p0 s1 p tm tF tf => ?_⟩
  have sd := s0.drop i
  have hd := s0.heldAt i
  have hd1 := hd.ps p
  have kp : ∀ b o, H b = some o → (Z b ∨ F i b ∨ ∀ xs, o ≠ .lst xs) → H1 b = some o := fun b o e z => p.keep b o e fun j y => by
    obtain ⟨ne, y⟩ := dropAt_ne y
    rcases z with z | z | z
    · exact s0.nz j b y z
    · exact ne (s0.dj j i b y z)
    · obtain ⟨xs, e'⟩ := s0.mu j b y
      rw [e] at e'; cases e'; exact z _ rfl
  have ha1 := kp a _ c3 (.inr (.inl c4))
  have ol1 : OwL K H1 Z1 l kk vs Ti := c5.mono p.zz fun b o e z => kp b o e (z.elim .inl fun z => .inr (z.elim (fun z => .inl (c7 b z)) .inr))
  refine ⟨ha1, ol1, fun b z y => tF b z (c7 b y), s0.gd a vs (.inl (.inl c3)), fun {vs' Tn r'} on sub hz hr => ?_⟩
  have nza : ¬ Z1 a := (hd1 a c4).2.1
  have nTn : ¬ Tn a := fun y => (sub a y).elim c6 fun y => tF a y c4
  have Fsub : ∀ b, Tn b → F i b ∨ T b := fun b y => (sub b y).imp (c7 b) id
  have on' : OwL K (upd H1 a (.lst vs')) Z1 l' kk vs' Tn := on.mono (fun _ z => z) fun b o e z => by
    have ne : b ≠ a := by
      rintro rfl
      rcases z with z | z | z
      · exact nza z
      · exact nTn z
      · rw [ha1] at e; cases e; exact z _ rfl
    rw [upd_ne ne]; exact e
  have q := c10 (H' := upd H1 a (.lst vs')) (Z' := Z1) p.zz upd_same (fun b o e ne z => by rw [upd_ne ne]; exact kp b o e (z.elim .inl fun z => .inr (z.elim (fun z => .inl z.1) .inr))) on' nTn (fun b y => (sub b y).imp id fun y h => tF b y h) (s0.nz i a c4)
  have s2 := s1.wr ha1 nza (fun j y => (hd1 a c4).2.2 j y) hz
  have t2 : Tm (upd H1 a (.lst vs')) Z1 F1 (fun b => (F i b ∧ ¬ Ti b) ∨ Tn b) := fun b y => by
    have y' : F i b ∨ T b := y.elim (fun y => .inl y.1) (Fsub b)
    have tb : (∃ vs, H1 b = some (.lst vs)) ∧ ¬ Z1 b ∧ ∀ i, ¬ F1 i b := y'.elim (hd1 b) (tm b)
    refine ⟨?_, tb.2⟩
    by_cases ne : b = a
    · subst ne; exact ⟨vs', upd_same⟩
    · rw [upd_ne ne]; exact tb.1
  refine ⟨_, s2.setR ev q t2 hr, ?_⟩
  have pf : ∀ j b, F j b → (∃ j, F0 j b) ∨ H0 b = none := p0.fn
  have pd : ∀ j b, F1 j b → (∃ j, F0 j b) ∨ H0 b = none := fun j b y => by
    rcases p.fn j b y with ⟨j', y⟩ | y
    · exact pf j' b (dropAt_ne y).2
    · exact .inr (none_of_dom p0.dom y)
  refine ⟨fun b o e n => ?_, fun b o e => ?_, fun b z => p.zz b (p0.zz b z), fun b z => ?_, fun j b y => ?_⟩
  · have e1 := p0.keep b o e n
    have nF : ∀ j, ¬ F j b := fun j y => by
      rcases pf j b y with ⟨j', y⟩ | y
      · exact n j' y
      · rw [e] at y; cases y
    have e2 := p.keep b o e1 fun j y => nF j (dropAt_ne y).2
    rw [upd_ne fun h => by subst h; exact nF i c4]
    exact e2
  · obtain ⟨o1, e1⟩ := p0.dom b o e
    obtain ⟨o2, e2⟩ := p.dom b o1 e1
    by_cases ne : b = a
    · subst ne; exact ⟨_, upd_same⟩
    · exact ⟨o2, by rw [upd_ne ne]; exact e2⟩
  · rcases p.zn b z with z | z | ⟨j, z⟩
    · exact p0.zn b z
    · exact .inr (.inl (none_of_dom p0.dom z))
    · exact (pf j b (dropAt_ne z).2).elim (fun h => .inr (.inr h)) fun h => .inr (.inl h)
  · try dsimp only at y
    by_cases e : j = i
    · rw [if_pos e] at y
      rcases y with y | y
      · exact pf i b y.1
      · rcases Fsub b y with y | y
        · exact pf i b y
        · exact tf b y
    · rw [if_neg e] at y
      exact pd j b y
/-- the slot behind a write -/
theorem chgR_some {i : Nat} {f : Nat → List D → Option (List D)} {p : List At} {r : R} (s : SR K B σ ρ0 H Z F) (h : chgR ρ f p (slot ρ0 i) = some r) : ∃ k d d' v, chgP ρ f p k d = some d' ∧ σ[i]? = some (some v) ∧ Ow K H Z d k v (F i) ∧ viewR (slot ρ0 i) = some (k, d) ∧ (r = .own k d' ∨ (r = .io k d' ∧ B i = σ[i]?)) := by
  have hs := s.sl i
  cases e : slot ρ0 i with
  | own k d =>
    rw [e] at h hs
    obtain ⟨d', e1, rfl⟩ := Option.map_eq_some_iff.mp h
    obtain ⟨v, ev, o⟩ := hs
    exact ⟨k, d, d', v, e1, ev, o, rfl, .inl rfl⟩
  | io k d =>
    rw [e] at h hs
    obtain ⟨d', e1, rfl⟩ := Option.map_eq_some_iff.mp h
    obtain ⟨hb, v, ev, o⟩ := hs
    exact ⟨k, d, d', v, e1, ev, o, rfl, .inr ⟨rfl, hb⟩⟩
  | un => rw [e] at h; cases h
  | val d => rw [e] at h; cases h
  | scr d => rw [e] at h; cases h
  | exc d => rw [e] at h; cases h
theorem isLst_ty {i : Nat} {v : V} (s : SR K B σ ρ H Z F) (h : isLst (slot ρ i) = true) (ev : σ[i]? = some (some v)) : ∃ a vs, v = .ref a ∧ H a = some (.lst vs) := by
  have hs := s.sl i
  have go : ∀ {k : Nat} {l : List D} {w : V} {T : AS}, Ow K H Z (.list l) k w T → ∃ a vs, w = .ref a ∧ H a = some (.lst vs) := by
    intro k l w T o
    cases k with
    | zero =>
      obtain ⟨⟨a, vs, e, st, _⟩, _⟩ := o
      exact ⟨a, vs, e, st.1⟩
    | succ k =>
      unfold Ow at o
      obtain ⟨a, vs, _, e, st, _⟩ := o
      exact ⟨a, vs, e, st⟩
  cases e : slot ρ i with
  | own k d =>
    rw [e] at h hs
    obtain ⟨w, ew, o⟩ := hs
    rw [ev] at ew; cases ew
    cases d with
    | list l => exact go o
    | _ => cases h
  | io k d =>
    rw [e] at h hs
    obtain ⟨_, w, ew, o⟩ := hs
    rw [ev] at ew; cases ew
    cases d with
    | list l => exact go o
    | _ => cases h
  | un => rw [e] at h; cases h
  | val d => rw [e] at h; cases h
  | scr d => rw [e] at h; cases h
  | exc d => rw [e] at h; cases h
theorem isLst_at {i : Nat} (s : SR K B σ ρ H Z F) (h : isLst (slot ρ i) = true) : ∃ v, σ[i]? = some (some v) := by
  have hh := s.sl i
  cases hq : slot ρ i with
  | own k d => rw [hq] at hh; obtain ⟨v, hv, _⟩ := hh; exact ⟨v, hv⟩
  | io k d => rw [hq] at hh; obtain ⟨_, v, hv, _⟩ := hh; exact ⟨v, hv⟩
  | un => rw [hq] at h; cases h
  | val d => rw [hq] at h; cases h
  | scr d => rw [hq] at h; cases h
  | exc d => rw [hq] at h; cases h
theorem OwL.rev {k : Nat} : ∀ {l : List D} {vs : List V} {T : AS}, OwL K H Z l k vs T → OwL K H Z l.reverse k vs.reverse T
  | [], _, _, o => by
    obtain ⟨rfl, t⟩ := o
    exact ⟨rfl, t⟩
  | d :: ds, _, T, o => by
    unfold OwL at o
    obtain ⟨v, ws, T1, T2, rfl, h1, h2, dj, t⟩ := o
    rw [List.reverse_cons, List.reverse_cons]
    have q := OwL.snoc h2.rev h1 fun a y z => dj a z y
    rw [show T = fun a => T2 a ∨ T1 a from funext fun a => propext ((t a).trans or_comm)]
    exact q
theorem OwL.app0 : ∀ {l l2 : List D} {vs ws : List V} {T : AS}, OwL K H Z l 0 vs T → FzL K H Z l2 ws → OwL K H Z (l ++ l2) 0 (vs ++ ws) T := fun o f => by
  obtain ⟨f1, t⟩ := owL_zero.1 o
  exact owL_zero.2 ⟨f1.app f, t⟩
end
end
end BW

/-! BwE14: list methods that change a list, item stores. -/
namespace BW
noncomputable section
open PySem PySem.Spec PyProof.Rows L2
theorem chgP_kk {ρ : Env} {f : Nat → List D → Option (List D)} : ∀ {p : List At} {k : Nat} {d d' : D}, chgP ρ f p k d = some d' → ∃ kk l l', k = kk + 1 + p.length ∧ f kk l = some l'
  | [], k, d, d', h => by
    cases d with
    | list l =>
      cases k with
      | zero => cases h
      | succ k =>
        obtain ⟨l', e1, _⟩ := Option.map_eq_some_iff.mp h
        exact ⟨k, l, l', rfl, e1⟩
    | _ => cases k <;> cases h
  | x :: p, k, d, d', h => by
    cases k with
    | zero => cases d <;> cases h
    | succ k =>
      cases d with
      | list l =>
        simp only [chgP] at h
        obtain ⟨n, e1, h⟩ := Option.bind_eq_some_iff.mp h
        obtain ⟨j, e2, h⟩ := Option.bind_eq_some_iff.mp h
        obtain ⟨d1, e3, h⟩ := Option.bind_eq_some_iff.mp h
        obtain ⟨d2, e4, _⟩ := Option.map_eq_some_iff.mp h
        obtain ⟨kk, l0, l', e5, e6⟩ := chgP_kk e4
        exact ⟨kk, l0, l', by rw [e5, List.length_cons]; omega, e6⟩
      | _ => cases h
theorem chgR_kk {ρ : Env} {f : Nat → List D → Option (List D)} {p : List At} {r r' : R} (h : chgR ρ f p r = some r') : ∃ k d kk l l', viewR r = some (k, d) ∧ k = kk + 1 + p.length ∧ f kk l = some l' := by
  cases r with
  | own k d =>
    obtain ⟨d', e1, _⟩ := Option.map_eq_some_iff.mp h
    obtain ⟨kk, l, l', e2, e3⟩ := chgP_kk e1
    exact ⟨k, d, kk, l, l', rfl, e2, e3⟩
  | io k d =>
    obtain ⟨d', e1, _⟩ := Option.map_eq_some_iff.mp h
    obtain ⟨kk, l, l', e2, e3⟩ := chgP_kk e1
    exact ⟨k, d, kk, l, l', rfl, e2, e3⟩
  | un => cases h
  | val d => cases h
  | scr d => cases h
  | exc d => cases h
section
variable {X : Cx} {B : Bk} {C : Calls} {G : Nat → D} {O : Nat → Nat} {k kr : Nat} {pos : Pos} {e ec ea eb : Ex}
theorem ty_list {K : PySem.W.Frag} {H : Hp} {a : Addr} {vs : List V} (h : H a = some (.lst vs)) : tyV K "list" (.ref a) H := .inl ⟨rfl, vs, .inl (.inl h)⟩
/-- what a method does, locally -/
def Loc1 (K : PySem.W.Frag) (O : Nat → Nat) (m : Mut) (as : Exs) (r : V → List V → Hp → VK → Prop) : Prop :=
  ∀ {ds : List D} {kk : Nat} {l l' : List D}, mutD O m as ds kk l = some l' → ∀ {H : Hp} {Z : AS} {vs ws : List V} {Ti T : AS}, OwL K H Z l kk vs Ti → OwL K H Z ds kk ws T → (∀ b, T b → ¬ Ti b) → vs.length ≤ sizeLine → ∃ vs' Tn, OwL K H Z l' kk vs' Tn ∧ (∀ b, Tn b → Ti b ∨ T b) ∧ vs'.length ≤ sizeLine ∧
    ∀ a Q, H a = some (.lst vs) → Q .non (upd H a (.lst vs')) → r (.ref a) ws H Q
theorem s_mutG {i : Nat} {p : List At} {m : Mut} {as : Exs} {ex : Expr} {r : V → List V → Hp → VK → Prop} (loc : Loc1 X.K O m as r)
    (hc : ∀ kk ds l l', mutD O m as ds kk l = some l' → PE X ex (tBM X.K "list" r (spPth X.K B i p) (spL X.K B (evL C G as) kk)))
    (hs : swapsWith ex none pos.line X.env = pure false) : PS X (.Expr ex pos) (spS X.K B kr (evS C G O (.mut i p m as))) := by
  refine ⟨fun pins s σ H Dn I ⟨ρ, Z, F, rr, sr, ev, fin⟩ => ?_⟩
  simp only [evS] at ev
  split at ev
  · rename_i hl
    cases p with
    | nil =>
      dsimp only at ev
      obtain ⟨⟨ds, ρ1⟩, e1, ev⟩ := Option.bind_eq_some_iff.mp ev
      obtain ⟨r', e2, ev⟩ := Option.bind_eq_some_iff.mp ev
      cases ev
      obtain ⟨k0, d0, kk, l, l', hk0, hk, hm⟩ := chgR_kk e2
      refine (ps_expr (hc kk ds l l' hm) hs).run pins s σ H Dn I ?_
      obtain ⟨v, hv⟩ : ∃ v, σ[i]? = some (some v) := by
        have hh := sr.sl i
        cases hq : slot ρ i with
        | own k d => rw [hq] at hh; obtain ⟨v, hv, _⟩ := hh; exact ⟨v, hv⟩
        | io k d => rw [hq] at hh; obtain ⟨_, v, hv, _⟩ := hh; exact ⟨v, hv⟩
        | un => rw [hq] at hl; cases hl
        | val d => rw [hq] at hl; cases hl
        | scr d => rw [hq] at hl; cases hl
        | exc d => rw [hq] at hl; cases hl
      obtain ⟨a0, vs0, rfl, ha0⟩ := isLst_ty sr hl hv
      refine ⟨ρ, Z, F, sr, [], _, _, rfl, hv, rfl, ty_list ha0, ρ, Z, F, ds, ρ1, sr, e1, fun ws H1 Z1 F1 T s1 r1 o1 => ?_⟩
      obtain ⟨k1, d1, d1', v1, c1, c2, c3, c4, c5⟩ := chgR_some s1 e2
      rw [hk0] at c4; cases c4
      rw [hv] at c2; cases c2
      obtain ⟨is, a, vs, l0, kk', Ti, l0', g1, g2, g3, g4, g5, g6, g7, g8⟩ := wr_core s1 hv c3 c1
      cases g1
      cases g2
      obtain rfl : kk' = kk := by simp only [List.length_nil] at g7 hk; omega
      obtain ⟨q1, q2, q3, q4, q5⟩ := g8 r1.ps (s1.drop i) Ps.refl (fun b z => ⟨(r1.tm b z).1, (r1.tm b z).2.1, fun j y => (r1.tm b z).2.2 j (dropAt_ne y).2⟩) (fun b z => (r1.tm b z).2.2 i) r1.tf
      obtain ⟨vs', Tn, w1, w2, w3, w4⟩ := loc g6 q2 o1 q3 q4
      refine w4 _ _ q1 ?_
      obtain ⟨F', s', p'⟩ := q5 w1 w2 w3 c5
      rw [List.set_set] at s'
      exact fin _ _ _ _ s' p'
    | cons x p =>
      dsimp only at ev
      obtain ⟨⟨ds, ρ1⟩, e1, ev⟩ := Option.bind_eq_some_iff.mp ev
      obtain ⟨r', e2, ev⟩ := Option.bind_eq_some_iff.mp ev
      cases ev
      obtain ⟨k0, d0, kk, l, l', hk0, hk, hm⟩ := chgR_kk e2
      refine (ps_expr (hc kk ds l l' hm) hs).run pins s σ H Dn I ?_
      obtain ⟨k1, d1, d1', v1, c1, c2, c3, c4, c5⟩ := chgR_some sr e2
      rw [hk0] at c4; cases c4
      obtain ⟨is, a, vs, l0, kk', Ti, l0', g1, g2, g3, g4, g5, g6, g7, g8⟩ := wr_core sr c2 c3 c1
      obtain rfl : kk' = kk := by omega
      refine ⟨ρ, Z, F, sr, is, _, _, g1, c2, g2, ty_list g3, _, Z, _, ds, ρ1, sr.drop i, e1, fun ws H1 Z1 F1 T s1 r1 o1 => ?_⟩
      have tF : ∀ b, T b → ¬ F i b := fun b z y => by
        rcases r1.tf b z with ⟨j, u⟩ | u
        · exact (dropAt_ne u).1 (sr.dj j i b (dropAt_ne u).2 y)
        · obtain ⟨xs, e'⟩ := sr.mu i b y
          rw [u] at e'; cases e'
      obtain ⟨q1, q2, q3, q4, q5⟩ := g8 Ps.refl s1 r1.ps r1.tm tF (fun b z => (r1.tf b z).imp (fun ⟨j, u⟩ => ⟨j, (dropAt_ne u).2⟩) id)
      obtain ⟨vs', Tn, w1, w2, w3, w4⟩ := loc g6 q2 o1 q3 q4
      refine w4 _ _ q1 ?_
      obtain ⟨F', s', p'⟩ := q5 w1 w2 w3 c5
      exact fin _ _ _ _ s' p'
  · cases ev
theorem mutD_append {es : Exs} {e : Ex} {ds : List D} {kk : Nat} {l l' : List D} (h : mutD O .append (.cons e .nil) ds kk l = some l') : ∃ d, ds = [d] ∧ kk ≤ ow O e ∧ l.length < 16777216 ∧ l' = l ++ [d] := by
  rcases ds with _ | ⟨d, _ | ⟨d2, ds⟩⟩
  · simp [mutD] at h
  · have h : (if kk ≤ ow O e ∧ sizeOk l.length = true then some (l ++ [d]) else none) = some l' := h
    split at h
    · rename_i hh
      cases h
      exact ⟨d, rfl, hh.1, by simpa [sizeOk] using hh.2, rfl⟩
    · cases h
  · simp [mutD] at h
theorem mutD_extend {e : Ex} {ds : List D} {kk : Nat} {l l' : List D} (h : mutD O .extend (.cons e .nil) ds kk l = some l') : ∃ x, ds = [.list x] ∧ kk = 0 ∧ l.length + x.length ≤ 16777216 ∧ l' = l ++ x := by
  rcases ds with _ | ⟨d, _ | ⟨d2, ds⟩⟩
  · simp [mutD] at h
  · cases d with
    | list x =>
      have h : (if kk = 0 ∧ fits (l.length + x.length) = true then some (l ++ x) else none) = some l' := h
      split at h
      · rename_i hh
        cases h
        exact ⟨x, rfl, hh.1, by simpa [fits] using hh.2, rfl⟩
      · cases h
    | _ => simp [mutD] at h
  · simp [mutD] at h
theorem mutD_insert {e e2 : Ex} {ds : List D} {kk : Nat} {l l' : List D} (h : mutD O .insert (.cons e (.cons e2 .nil)) ds kk l = some l') : ∃ n d, ds = [.int n, d] ∧ kk = 0 ∧ 0 ≤ n ∧ n < 9223372036854775808 ∧ l.length < 16777216 ∧ l' = l.take n.toNat ++ [d] ++ l.drop n.toNat := by
  rcases ds with _ | ⟨d, _ | ⟨d2, _ | ⟨d3, ds⟩⟩⟩
  · simp [mutD] at h
  · cases d <;> simp [mutD] at h
  · cases d with
    | int n =>
      have h : (if kk = 0 ∧ 0 ≤ n ∧ n < 9223372036854775808 ∧ sizeOk l.length = true then some (l.take n.toNat ++ [d2] ++ l.drop n.toNat) else none) = some l' := h
      split at h
      · rename_i hh
        cases h
        exact ⟨n, d2, rfl, hh.1, hh.2.1, hh.2.2.1, by simpa [sizeOk] using hh.2.2.2, rfl⟩
      · cases h
    | _ => simp [mutD] at h
  · cases d <;> simp [mutD] at h
theorem mutD_reverse {ds : List D} {kk : Nat} {l l' : List D} (h : mutD O .reverse .nil ds kk l = some l') : ds = [] ∧ l' = l.reverse := by
  unfold mutD at h
  split at h
  all_goals simp_all
theorem mutD_clear {ds : List D} {kk : Nat} {l l' : List D} (h : mutD O .clear .nil ds kk l = some l') : ds = [] ∧ l' = [] := by
  unfold mutD at h
  split at h
  all_goals simp_all
theorem loc_append : Loc1 X.K O .append (.cons e .nil) rAppend := fun {ds kk l l'} h {H Z vs ws Ti T} o1 o2 dj z => by
  obtain ⟨d, rfl, hk, hz, rfl⟩ := mutD_append (es := .nil) h
  unfold OwL at o2
  obtain ⟨w, us, T1, T2, rfl, h1, h2, _, t⟩ := o2
  unfold OwL at h2
  obtain ⟨rfl, h2⟩ := h2
  have hz' : vs.length < sizeLine := by rw [← owL_len o1]; exact hz
  refine ⟨vs ++ [w], _, OwL.snoc o1 h1 (fun a y u => dj a ((t a).2 (.inl u)) y), fun b u => u.imp id fun u => (t b).2 (.inl u), by rw [List.length_append, List.length_singleton]; exact hz', fun a Q ha q => ⟨a, vs, w, rfl, rfl, ha, hz', q⟩⟩
theorem loc_extend : Loc1 X.K O .extend (.cons e .nil) rExtend := fun {ds kk l l'} h {H Z vs ws Ti T} o1 o2 dj z => by
  obtain ⟨x, rfl, rfl, hz, rfl⟩ := mutD_extend h
  have o2' := (owL_zero.1 o2).1
  unfold FzL at o2'
  obtain ⟨w, us, rfl, h1, h2⟩ := o2'
  unfold FzL at h2
  subst h2
  unfold Fz at h1
  obtain ⟨b, zs, rfl, st, fz⟩ := h1
  have hz' : vs.length + zs.length ≤ sizeLine := by rw [← owL_len o1, ← fz.length]; exact hz
  refine ⟨vs ++ zs, _, o1.app0 fz, fun b u => .inl u, by rw [List.length_append]; exact hz', fun a Q ha q => ⟨a, b, vs, zs, rfl, rfl, ha, st.1, hz', q⟩⟩
def rInsE : V → List V → Hp → VK → Prop := fun x vs H Q => ∃ (l : Addr) (xs : List V) (i : Int) (y : V), x = .ref l ∧ vs = [.int i, y] ∧ H l = some (.lst xs) ∧ xs.length < sizeLine ∧ 0 ≤ i ∧ i < 2 ^ 63 ∧ Q .non (upd H l (.lst (xs.take i.toNat ++ [y] ++ xs.drop i.toNat)))
theorem mt_insE : MtR X "list.insert" rInsE := mt_insert
theorem loc_insert {e2 : Ex} : Loc1 X.K O .insert (.cons e (.cons e2 .nil)) rInsE := fun {ds kk l l'} h {H Z vs ws Ti T} o1 o2 dj z => by
  obtain ⟨n, d, rfl, rfl, h0, h1, hz, rfl⟩ := mutD_insert h
  have o2' := (owL_zero.1 o2).1
  have o1' := (owL_zero.1 o1)
  unfold FzL at o2'
  obtain ⟨w, us, rfl, g1, g2⟩ := o2'
  unfold FzL at g2
  obtain ⟨y, ys, rfl, g3, g4⟩ := g2
  unfold FzL at g4
  subst g4
  obtain rfl : w = .int n := g1
  have one : FzL X.K H Z [d] [y] := by
    unfold FzL
    exact ⟨y, [], rfl, g3, by unfold FzL; rfl⟩
  have hz' : vs.length < sizeLine := by rw [← owL_len o1]; exact hz
  refine ⟨vs.take n.toNat ++ [y] ++ vs.drop n.toNat, fun _ => False, owL_zero.2 ⟨((o1'.1.take n.toNat).app one).app (o1'.1.drop n.toNat), fun _ z => z⟩, fun b u => u.elim, ?_, fun a Q ha q => ⟨a, vs, n, y, rfl, rfl, ha, hz', h0, by omega, q⟩⟩
  simp only [List.length_append, List.length_take, List.length_drop, List.length_cons, List.length_nil]
  omega
theorem loc_reverse : Loc1 X.K O .reverse .nil rReverse := fun {ds kk l l'} h {H Z vs ws Ti T} o1 o2 dj z => by
  obtain ⟨rfl, rfl⟩ := mutD_reverse h
  obtain ⟨rfl, _⟩ := o2
  exact ⟨_, _, o1.rev, fun b u => .inl u, by rw [List.length_reverse]; exact z, fun a Q ha q => ⟨a, vs, rfl, rfl, ha, q⟩⟩
theorem loc_clear : Loc1 X.K O .clear .nil rClear := fun {ds kk l l'} h {H Z vs ws Ti T} o1 o2 dj z => by
  obtain ⟨rfl, rfl⟩ := mutD_clear h
  obtain ⟨rfl, _⟩ := o2
  exact ⟨[], fun _ => False, ⟨rfl, fun _ z => z⟩, fun b u => u.elim, Nat.zero_le _, fun a Q ha q => ⟨a, vs, rfl, rfl, ha, q⟩⟩
variable {i : Nat} {p : List At} {ox ax : Expr} {apos cpos : Pos}
theorem s_append (ho : PE X ox (spPth X.K B i p)) (ha : ∀ k, k ≤ ow O e → PE X ax (spE X.K B C G e k)) (hl : (apos.endLine == cpos.line) = true) (st : starEach [ax] X.env = (false, eval ax X.env) :: starEach [] X.env)
    (hbase : attributeBase ox ("append" : Str) X.env (eval ox X.env) = eval ox X.env)
    (hs : swapsWith (.Call (.Attribute ox ("append" : Str) apos) [ax] [] cpos) none pos.line X.env = pure false) :
    PS X (.Expr (.Call (.Attribute ox ("append" : Str) apos) [ax] [] cpos) pos) (spS X.K B kr (evS C G O (.mut i p .append (.cons e .nil)))) :=
  s_mutG loc_append (fun kk ds l l' h => by
    obtain ⟨d, _, hk, _⟩ := mutD_append (es := .nil) h
    exact pe_bm F.plainAttrs_list F.slot_list_append F.type_list_append mt_append ho (l_cons (ha kk hk) l_nil st) hbase (by rw [st]; rfl) hl st rfl) hs
theorem s_extend (ho : PE X ox (spPth X.K B i p)) (ha : PE X ax (spE X.K B C G e 0)) (hl : (apos.endLine == cpos.line) = true) (st : starEach [ax] X.env = (false, eval ax X.env) :: starEach [] X.env)
    (hbase : attributeBase ox ("extend" : Str) X.env (eval ox X.env) = eval ox X.env)
    (hs : swapsWith (.Call (.Attribute ox ("extend" : Str) apos) [ax] [] cpos) none pos.line X.env = pure false) :
    PS X (.Expr (.Call (.Attribute ox ("extend" : Str) apos) [ax] [] cpos) pos) (spS X.K B kr (evS C G O (.mut i p .extend (.cons e .nil)))) :=
  s_mutG loc_extend (fun kk ds l l' h => by
    obtain ⟨d, _, rfl, _⟩ := mutD_extend h
    exact pe_bm F.plainAttrs_list F.slot_list_extend F.type_list_extend mt_extend ho (l_cons ha l_nil st) hbase (by rw [st]; rfl) hl st rfl) hs
theorem s_insert {ax2 : Expr} {e2 : Ex} (ho : PE X ox (spPth X.K B i p)) (ha : PE X ax (spE X.K B C G e 0)) (ha2 : PE X ax2 (spE X.K B C G e2 0)) (hl : (apos.endLine == cpos.line) = true) (st : starEach [ax, ax2] X.env = (false, eval ax X.env) :: starEach [ax2] X.env) (st2 : starEach [ax2] X.env = (false, eval ax2 X.env) :: starEach [] X.env)
    (hbase : attributeBase ox ("insert" : Str) X.env (eval ox X.env) = eval ox X.env)
    (hs : swapsWith (.Call (.Attribute ox ("insert" : Str) apos) [ax, ax2] [] cpos) none pos.line X.env = pure false) :
    PS X (.Expr (.Call (.Attribute ox ("insert" : Str) apos) [ax, ax2] [] cpos) pos) (spS X.K B kr (evS C G O (.mut i p .insert (.cons e (.cons e2 .nil))))) :=
  s_mutG loc_insert (fun kk ds l l' h => by
    obtain ⟨n, d, _, rfl, _⟩ := mutD_insert h
    exact pe_bm F.plainAttrs_list F.slot_list_insert F.type_list_insert mt_insE ho (l_cons ha (l_cons ha2 l_nil st2) st) hbase (by rw [st, st2]; rfl) hl st (by rw [st2]; rfl)) hs
theorem bm0_of {r : V → List V → Hp → VK → Prop} {kk : Nat} {T : String} {ex : Expr} (h : PE X ex (tBM0 X.K T r (spPth X.K B i p))) : PE X ex (tBM X.K T r (spPth X.K B i p) (spL X.K B (evL C G .nil) kk)) :=
  h.imp fun σ H Q ⟨ρ, Z, F, s, is, v, w, h1, h2, h3, h4, h5⟩ => by
    obtain ⟨ρ', Z', F', l, ρ1, s', e, q⟩ := h5
    simp only [evL] at e
    cases e
    exact ⟨ρ, Z, F, s, is, v, w, h1, h2, h3, h4, q [] H Z' F' (fun _ => False) s' (Rs.refl fun _ z => z) ⟨rfl, fun _ z => z⟩⟩
theorem s_reverse (ho : PE X ox (spPth X.K B i p)) (hl : (apos.endLine == cpos.line) = true) 
    (hbase : attributeBase ox ("reverse" : Str) X.env (eval ox X.env) = eval ox X.env)
    (hs : swapsWith (.Call (.Attribute ox ("reverse" : Str) apos) [] [] cpos) none pos.line X.env = pure false) :
    PS X (.Expr (.Call (.Attribute ox ("reverse" : Str) apos) [] [] cpos) pos) (spS X.K B kr (evS C G O (.mut i p .reverse .nil))) :=
  s_mutG loc_reverse (fun kk ds l l' h => bm0_of (pe_bm0 F.plainAttrs_list F.slot_list_reverse F.type_list_reverse mt_reverse ho hbase hl)) hs
theorem s_clear (ho : PE X ox (spPth X.K B i p)) (hl : (apos.endLine == cpos.line) = true) 
    (hbase : attributeBase ox ("clear" : Str) X.env (eval ox X.env) = eval ox X.env)
    (hs : swapsWith (.Call (.Attribute ox ("clear" : Str) apos) [] [] cpos) none pos.line X.env = pure false) :
    PS X (.Expr (.Call (.Attribute ox ("clear" : Str) apos) [] [] cpos) pos) (spS X.K B kr (evS C G O (.mut i p .clear .nil))) :=
  s_mutG loc_clear (fun kk ds l l' h => bm0_of (pe_bm0 F.plainAttrs_list F.slot_list_clear F.type_list_clear mt_clear ho hbase hl)) hs
end
end
end BW

/-! BwE15: item stores, pop. -/
namespace BW
noncomputable section
open PySem PySem.Spec PyProof.Rows L2
section
variable {K : PySem.W.Frag} {H H0 H1 H2 H' : Hp} {Z Z0 Z1 Z2 Z' : AS} {F F0 F1 F2 : FS} {B : Bk} {σ σ' : L2.St} {ρ ρ0 ρ1 ρ' : Env}
theorem OwL.eraseIdx0 : ∀ {l : List D} {vs : List V} {T : AS} (j : Nat), OwL K H Z l 0 vs T → OwL K H Z (l.eraseIdx j) 0 (vs.eraseIdx j) T := fun {l vs T} j o => by
  obtain ⟨f1, t⟩ := owL_zero.1 o
  refine owL_zero.2 ⟨?_, t⟩
  clear o t
  induction l generalizing vs j with
  | nil => unfold FzL at f1; subst f1; simp [FzL]
  | cons d ds ih =>
    unfold FzL at f1
    obtain ⟨v, ws, rfl, h1, h2⟩ := f1
    cases j with
    | zero => exact h2
    | succ j =>
      show FzL K H Z (d :: ds.eraseIdx j) (v :: ws.eraseIdx j)
      unfold FzL
      exact ⟨v, _, rfl, h1, ih j h2⟩
theorem OwL.set {k j : Nat} {l : List D} {vs : List V} {T T2 : AS} {d : D} {w : V} (o : OwL K H Z l k vs T) (hj : j < l.length) (o2 : Ow K H Z d k w T2) (dj : ∀ b, T2 b → ¬ T b) : ∃ Tn, OwL K H Z (l.set j d) k (vs.set j w) Tn ∧ ∀ b, Tn b → T b ∨ T2 b := by
  obtain ⟨u, Tj, e1, o1, sub, put⟩ := o.at (List.getElem?_eq_getElem hj)
  exact ⟨_, put (fun _ z => z) (fun _ _ e _ => e) o2 fun b z => .inr (dj b z), fun b z => z.elim (fun z => .inl z.1) .inr⟩
theorem setD_some {O : Nat → Nat} {e : Ex} {n : Int} {d : D} {kk : Nat} {l l' : List D} (h : setD O e n d kk l = some l') : kk ≤ ow O e ∧ ∃ j, ixN l.length n = some j ∧ l' = l.set j d := by
  unfold setD at h
  split at h
  · rename_i hk
    obtain ⟨j, e1, e2⟩ := Option.bind_eq_some_iff.mp h
    cases e2
    exact ⟨hk, j, e1, rfl⟩
  · cases h
theorem tm_drop {T : AS} {i : Nat} (t : Tm H Z F T) : Tm H Z (dropAt F i) T := fun b z => ⟨(t b z).1, (t b z).2.1, fun j y => (t b z).2.2 j (dropAt_ne y).2⟩
end
section
variable {X : Cx} {B : Bk} {C : Calls} {G : Nat → D} {O : Nat → Nat} {k kr : Nat} {pos : Pos} {e ex ea eb : Ex} {i : Nat} {p : List At}
/-- x[..] = value -/
theorem s_seti0 {x : Str} {xp sp : Pos} {ax ix : Expr} (hN : X.N[i]? = some x) (hv : Vis X.env.scope x) (hd : (x == ("__debug__" : Str)) = false) (hcd : (x == ("__classdict__" : Str)) = false)
    (ha : ∀ k, k ≤ ow O e → PE X ax (spE X.K B C G e k)) (hi : PE X ix (spE X.K B C G ex 0))
    (hpl : ∀ v, assign (.Subscript (.Name x xp) ix sp) X.env v = (do
      let ov ← holding [v] (eval (.Name x xp) X.env)
      let iv ← holding [v, ov] (eval ix X.env)
      standAt sp
      holding [v, ov, iv] (setItem ov iv v)
      release [v, ov, iv] []))
    (hs : swapsWithSole [.Subscript (.Name x xp) ix sp] ax pos.line X.env = pure false) (hw : swappedStores [.Subscript (.Name x xp) ix sp] ax X.env = pure none)
    (h1 : (assignEach [.Subscript (.Name x xp) ix sp] X.env).map (·.2) = [assign (.Subscript (.Name x xp) ix sp) X.env]) :
    PS X (.Assign [.Subscript (.Name x xp) ix sp] ax pos) (spS X.K B kr (evS C G O (.seti i [] ex e))) := by
  refine ⟨fun pins s σ H Dn I ⟨ρ, Z, F, rr, sr, ev, fin⟩ => ?_⟩
  simp only [evS] at ev
  obtain ⟨⟨d, ρ1⟩, e1, ev⟩ := Option.bind_eq_some_iff.mp ev
  dsimp only at ev
  split at ev
  case isFalse => cases ev
  rename_i hl
  obtain ⟨⟨y, ρ2⟩, e2, ev⟩ := Option.bind_eq_some_iff.mp ev
  obtain ⟨n, e3, ev⟩ := Option.bind_eq_some_iff.mp ev
  obtain ⟨r', e4, ev⟩ := Option.bind_eq_some_iff.mp ev
  cases ev
  cases y <;> cases e3
  obtain ⟨k0, d0, kk, l, l', hk0, hk, hm⟩ := chgR_kk e4
  have hko := (setD_some hm).1
  refine (ps_asg (ha kk hko) (pg_sub (pe_var hN hv hd hcd) hi set_list hpl) hs hw h1).run pins s σ H Dn I ?_
  refine ⟨ρ, Z, F, d, ρ1, sr, e1, fun v H1 Z1 F1 T s1 r1 o1 => ?_⟩
  obtain ⟨v0, hv0⟩ := isLst_at s1 hl
  refine ⟨v0, hv0, ρ1, Z1, F1, _, ρ2, s1, e2, fun w H2 Z2 F2 T2 s2 r2 o2 => ?_⟩
  obtain ⟨k1, d1, d1', v1, c1, c2, c3, c4, c5⟩ := chgR_some s2 e4
  rw [hk0] at c4; cases c4
  rw [hv0] at c2; cases c2
  obtain ⟨is, a, vs, l0, kk', Ti, l0', g1, g2, g3, g4, g5, g6, g7, g8⟩ := wr_core s2 hv0 c3 c1
  cases g1
  cases g2
  obtain rfl : kk' = kk := by simp only [List.length_nil] at g7 hk; omega
  have tm1 := r1.tm.ps r2.ps
  obtain ⟨q1, q2, q3, q4, q5⟩ := g8 (r1.ps.trans r2.ps) (s2.drop i) Ps.refl (tm_drop tm1) (fun b z => (tm1 b z).2.2 i) r1.tf
  obtain ⟨_, j, hj, rfl⟩ := setD_some g6
  have hjl : j < l0.length := (ixN_seq hj).2.1
  obtain ⟨Tn, w1, w2⟩ := q2.set hjl (r2.ps.ow s1 r1.tm o1) q3
  refine ⟨a, vs, n, j, rfl, ow_int o2, q1, by rw [← owL_len q2]; exact hj, ?_⟩
  obtain ⟨F', s', p'⟩ := q5 w1 w2 (by rw [List.length_set]; exact q4) c5
  rw [List.set_set] at s'
  exact fin _ _ _ _ s' p'
/-- x[..][..] = value -/
theorem s_setiP {x0 : At} {ox ax ix : Expr} {sp : Pos} {at_ : At} (hx : exAt ex = some at_) (ho : PE X ox (spPth X.K B i (x0 :: p)))
    (ha : ∀ k, k ≤ ow O e → PE X ax (spE X.K B C G e k)) (hi : PE X ix (spAt X.K B at_))
    (hpl : ∀ v, assign (.Subscript ox ix sp) X.env v = (do
      let ov ← holding [v] (eval ox X.env)
      let iv ← holding [v, ov] (eval ix X.env)
      standAt sp
      holding [v, ov, iv] (setItem ov iv v)
      release [v, ov, iv] []))
    (hs : swapsWithSole [.Subscript ox ix sp] ax pos.line X.env = pure false) (hw : swappedStores [.Subscript ox ix sp] ax X.env = pure none)
    (h1 : (assignEach [.Subscript ox ix sp] X.env).map (·.2) = [assign (.Subscript ox ix sp) X.env]) :
    PS X (.Assign [.Subscript ox ix sp] ax pos) (spS X.K B kr (evS C G O (.seti i (x0 :: p) ex e))) := by
  refine ⟨fun pins s σ H Dn I ⟨ρ, Z, F, rr, sr, ev, fin⟩ => ?_⟩
  simp only [evS] at ev
  obtain ⟨⟨d, ρ1⟩, e1, ev⟩ := Option.bind_eq_some_iff.mp ev
  dsimp only at ev
  obtain ⟨y, e2, ev⟩ := Option.bind_eq_some_iff.mp ev
  obtain ⟨n, e3, ev⟩ := Option.bind_eq_some_iff.mp ev
  obtain ⟨r', e4, ev⟩ := Option.bind_eq_some_iff.mp ev
  cases ev
  rw [hx] at e2; cases e2
  obtain ⟨k0, d0, kk, l, l', hk0, hk, hm⟩ := chgR_kk e4
  have hko := (setD_some hm).1
  refine (ps_asg (ha kk hko) (pg_sub ho hi set_list hpl) hs hw h1).run pins s σ H Dn I ?_
  refine ⟨ρ, Z, F, d, ρ1, sr, e1, fun v H1 Z1 F1 T s1 r1 o1 => ?_⟩
  obtain ⟨k1, d1, d1', v1, c1, c2, c3, c4, c5⟩ := chgR_some s1 e4
  rw [hk0] at c4; cases c4
  obtain ⟨is, a, vs, l0, kk', Ti, l0', g1, g2, g3, g4, g5, g6, g7, g8⟩ := wr_core s1 c2 c3 c1
  obtain rfl : kk' = kk := by omega
  refine ⟨ρ1, Z1, F1, s1, is, _, _, g1, c2, g2, ρ1, Z1, F1, n, s1, e3, ?_⟩
  obtain ⟨q1, q2, q3, q4, q5⟩ := g8 r1.ps (s1.drop i) Ps.refl (tm_drop r1.tm) (fun b z => (r1.tm b z).2.2 i) r1.tf
  obtain ⟨_, j, hj, rfl⟩ := setD_some g6
  have hjl : j < l0.length := (ixN_seq hj).2.1
  obtain ⟨Tn, w1, w2⟩ := q2.set hjl o1 q3
  refine ⟨a, vs, n, j, rfl, rfl, q1, by rw [← owL_len q2]; exact hj, ?_⟩
  obtain ⟨F', s', p'⟩ := q5 w1 w2 (by rw [List.length_set]; exact q4) c5
  rw [List.set_set] at s'
  exact fin _ _ _ _ s' p'
/-- x.pop(..) -/
theorem s_pop {x : Str} {xp apos cpos : Pos} {ax : Expr} (hN : X.N[i]? = some x) (hv : Vis X.env.scope x) (hd : (x == ("__debug__" : Str)) = false) (hcd : (x == ("__classdict__" : Str)) = false)
    (ha : PE X ax (spE X.K B C G e 0)) (hl : (apos.endLine == cpos.line) = true) (st : starEach [ax] X.env = (false, eval ax X.env) :: starEach [] X.env)
    (hbase : attributeBase (.Name x xp) ("pop" : Str) X.env (eval (.Name x xp) X.env) = eval (.Name x xp) X.env) :
    PE X (.Call (.Attribute (.Name x xp) ("pop" : Str) apos) [ax] [] cpos) (spE X.K B C G (.pop i e) 0) :=
  (pe_bm F.plainAttrs_list F.slot_list_pop F.type_list_pop mt_popAt (pe_var hN hv hd hcd) (l_cons ha l_nil st) hbase (by rw [st]; rfl) hl st rfl).imp fun σ H Q ⟨ρ, Z, F, d, ρ', sr, ev, q⟩ => by
    simp only [evE] at ev
    split at ev
    case isFalse => cases ev
    rename_i hlst
    obtain ⟨⟨y, ρ2⟩, e2, ev⟩ := Option.bind_eq_some_iff.mp ev
    obtain ⟨n, e3, ev⟩ := Option.bind_eq_some_iff.mp ev
    obtain ⟨⟨k0, d0⟩, e4, ev⟩ := Option.bind_eq_some_iff.mp ev
    obtain ⟨z, e5, ev⟩ := Option.bind_eq_some_iff.mp ev
    obtain ⟨r', e6, ev⟩ := Option.bind_eq_some_iff.mp ev
    cases ev
    cases y <;> cases e3
    obtain ⟨v0, hv0⟩ := isLst_at sr hlst
    obtain ⟨a0, vs0, rfl, ha0⟩ := isLst_ty sr hlst hv0
    refine ⟨_, hv0, ty_list ha0, ρ, Z, F, [.int n], ρ2, sr, by simp [evL, e2], fun ws H1 Z1 F1 T s1 r1 o1 => ?_⟩
    obtain ⟨k1, d1, d1', v1, c1, c2, c3, c4, c5⟩ := chgR_some s1 e6
    rw [e4] at c4; cases c4
    rw [hv0] at c2; cases c2
    obtain ⟨is, a, vs, l0, kk', Ti, l0', g1, g2, g3, g4, g5, g6, g7, g8⟩ := wr_core s1 hv0 c3 c1
    cases g1
    cases g2
    have g4' := g4
    obtain ⟨q1, q2, q3, q4, q5⟩ := g8 (T := fun _ => False) r1.ps (s1.drop i) Ps.refl Tm.none (fun b z => z.elim) (fun b z => z.elim)
    split at g6
    case isFalse => cases g6
    rename_i hk
    subst hk
    obtain ⟨j, e7, e8⟩ := Option.bind_eq_some_iff.mp g6
    cases e8
    simp only [List.length_nil] at g7
    subst g7
    cases d0 with
    | list ll =>
      unfold Ow at c3
      obtain ⟨b, xs, T', hb, hbb, _, olb, _⟩ := c3
      cases hb
      rw [q1] at hbb
      cases hbb
      simp only [idxD] at e5
      obtain ⟨j', e9, e10⟩ := Option.bind_eq_some_iff.mp e5
      have fl := (owL_zero.1 olb).1
      obtain ⟨u, u1, u2⟩ := fl.get e10
      have lj := ixN_seq e7
      rw [owL_len q2] at lj
      have lj' := ixN_seq e9
      rw [fl.length] at lj'
      obtain rfl : j' = j := by
        have := lj'.1.symm.trans lj.1
        exact Option.some.inj this
      have hz := q4
      unfold sizeLine at hz
      have hw := o1
      unfold OwL at hw
      obtain ⟨w, us, T1, T2, rfl, h1, h2, _, _⟩ := hw
      obtain ⟨rfl, _⟩ := h2
      refine ⟨_, vs, n, j', u, rfl, by rw [ow_int h1], q1, by omega, by omega, lj.1, u1, ?_⟩
      obtain ⟨F', s', p'⟩ := q5 (q2.eraseIdx0 j') (fun b z => .inl z) (by rw [List.length_eraseIdx]; split <;> omega) c5
      rw [List.set_set] at s'
      refine q u _ Z1 F' (fun _ => False) s' ⟨p', Tm.none, fun _ z => z.elim⟩ (ow_zero.2 ⟨u2.mono (fun b o e z => ?_) fun _ z => z, fun _ z => z⟩)
      have ne : b ≠ a0 := by
        rintro rfl
        rcases z with z | z
        · exact s1.nz i _ g4' z
        · rw [q1] at e; cases e; exact z _ rfl
      rw [upd_ne ne]; exact e
    | _ => unfold chgP at c1; cases c1
end
end
end BW

/-! BwE16: three names at once. -/
namespace BW
noncomputable section
open PySem PySem.Spec PyProof.Rows L2
section
variable {X : Cx} {B : Bk} {C : Calls} {G : Nat → D} {O : Nat → Nat} {kr : Nat} {pos : Pos}
theorem s_par3 {i j l : Nat} {x y z : Str} {a b c : Expr} {px py pz pt pt2 : Pos} {kt k2 : Nat} {es : Exs} (hc : X.calm = true) (hN : X.N.Nodup) (hi : X.N[i]? = some x) (hj : X.N[j]? = some y) (hl : X.N[l]? = some z) (hij : i ≠ j) (hil : i ≠ l) (hjl : j ≠ l)
    (hx : X.env.scope.names.lookup x = some .local) (hy : X.env.scope.names.lookup y = some .local) (hz : X.env.scope.names.lookup z = some .local) (ha : PA X [a, b, c] (spL X.K B (evL C G es) 0))
    (hw : swappedStores [.Tuple [.Name x px, .Name y py, .Name z pz] kt pt] (.Tuple [a, b, c] k2 pt2) X.env = pure (some [x, y, z])) :
    PS X (.Assign [.Tuple [.Name x px, .Name y py, .Name z pz] kt pt] (.Tuple [a, b, c] k2 pt2) pos) (spS X.K B kr (evS C G O (.par3 i j l es))) :=
  (ps_par3 hc hN hi hj hl hij hil hjl hx hy hz ha hw rfl).imp fun Dn σ H ⟨ρ, Z, F, r, s, ev, fin⟩ => by
    simp only [evS] at ev
    obtain ⟨⟨ds, ρ1⟩, e1, ev⟩ := Option.bind_eq_some_iff.mp ev
    refine ⟨ρ, Z, F, ds, ρ1, s, e1, fun vs H1 Z1 F1 T1 s1 r1 o1 => ?_⟩
    dsimp only at ev
    split at ev
    · obtain ⟨ρ2, e2, ev⟩ := Option.bind_eq_some_iff.mp ev
      obtain ⟨ρ3, e3, ev⟩ := Option.bind_eq_some_iff.mp ev
      obtain ⟨ρ4, e4, ev⟩ := Option.bind_eq_some_iff.mp ev
      cases ev
      have fz := (owL_zero.1 o1).1
      unfold FzL at fz
      obtain ⟨u, us, rfl, f1, fz⟩ := fz
      unfold FzL at fz
      obtain ⟨v, vs, rfl, f2, fz⟩ := fz
      unfold FzL at fz
      obtain ⟨w, ws, rfl, f3, fz⟩ := fz
      unfold FzL at fz
      subst fz
      refine ⟨u, v, w, rfl, ?_⟩
      obtain ⟨F2, s2, p2⟩ := put_any (k := 0) s1 e2 rfl (ow_zero.2 ⟨f1, fun _ z => z⟩) (⟨r1.ps, Tm.none, fun _ z => z.elim⟩ : Rs H Z F H1 Z1 F1 fun _ => False)
      obtain ⟨F3, s3, p3⟩ := put_any (k := 0) s2 e3 rfl (ow_zero.2 ⟨f2, fun _ z => z⟩) (⟨p2, Tm.none, fun _ z => z.elim⟩ : Rs H Z F H1 Z1 F2 fun _ => False)
      obtain ⟨F4, s4, p4⟩ := put_any (k := 0) s3 e4 rfl (ow_zero.2 ⟨f3, fun _ z => z⟩) (⟨p3, Tm.none, fun _ z => z.elim⟩ : Rs H Z F H1 Z1 F3 fun _ => False)
      exact fin _ _ _ _ s4 p4
    · cases ev
end
end
end BW

/-! BwX1: enumerate over a tuple. -/
namespace BW
noncomputable section
open PySem PySem.Spec PyProof.Rows L2
theorem meets_enumerate_new1 {v : Value} {o : Obj} {H : Heap → Prop} (B : Begins v o H) :
    Meets (Builtin.«enumerate.__new__» ⟨[.type "enumerate", v], []⟩) (fun _ R s => H s.heap ∧
      R (.ok (.ret (.ref (s.heap.push o).objs.size))) { s with heap := (s.heap.push o).push { cls := .type "enumerate", data := .fields #[.none, .bool false, .ref s.heap.objs.size, rawInt 0, .none, .none] } }) :=
  .of_wp fun prog w A R s h => by
    obtain ⟨hp, g, d, tk, os⟩ := s; obtain ⟨h1, h⟩ := h
    have hsub := sub_enumerate
    have q1 : ∀ {A' : Around} {E : Value → Shared → Prop} {Q : Value → Shared → Prop}, Q (.ref hp.objs.size) ⟨hp.push o, g, d, tk, os⟩ → wpAny (model prog w) A' (pyIter v) Q E ⟨hp, g, d, tk, os⟩ :=
      fun q => B.iter prog w _ _ ⟨hp, g, d, tk, os⟩ _ h1 q
    wp_walk using q1
    refine wpAny_stack_any fun st => wpAny_pure ?_
    split
    · rename_i c _ _ _ _ _
      cases (c == Value.type "enumerate")
      · wp_walk using q1
        exact ⟨_, rfl, h⟩
      · wp_walk using q1
        exact ⟨_, rfl, h⟩
    · wp_walk using q1
      exact ⟨_, rfl, h⟩
section
variable {prog : Program} {w : World} {A : Around} {E : Value → Shared → Prop} {s : Shared}
theorem call_enumerate_tuple {l : Addr} {items : Array Value} {Q : Value → Shared → Prop} (hL : s.heap.IsTuple l items)
    (h : ∀ h', IsEnum h' (s.heap.objs.size + 1) s.heap.objs.size 0 .none → h'.IsTupleIter s.heap.objs.size l 0 → h'.objs.size = s.heap.objs.size + 2 →
      (∀ b o, s.heap.get? b = some o → h'.get? b = some o) → Q (.ref (s.heap.objs.size + 1)) { s with heap := h' }) :
    wpAny (model prog w) A (call (.type "enumerate") [.ref l]) Q E s := by
  refine callType_new F.called_enumerate (by decide) (F.typeCall_enumerate_1 _) (F.newCall_enumerate_1 _) (fun obj => F.args_object_init_2 obj _) F.entry_enumerate_new
    (meets_enumerate_new1 (begins_tuple l items)) ⟨hL, ?_⟩
  have hz : (s.heap.push { cls := .type "tuple_iterator", data := .fields #[.ref l, .int 0 0] }).objs.size = s.heap.objs.size + 1 := Heap.size_push ..
  show _ ∧ _
  rw [hz]
  have he : IsEnum ((s.heap.push { cls := .type "tuple_iterator", data := .fields #[.ref l, .int 0 0] }).push { cls := .type "enumerate", data := .fields #[.none, .bool false, .ref s.heap.objs.size, rawInt 0, .none, .none] }) (s.heap.objs.size + 1) s.heap.objs.size 0 .none := by
    have := Heap.get?_push_size (s.heap.push { cls := .type "tuple_iterator", data := .fields #[.ref l, .int 0 0] }) (o := { cls := .type "enumerate", data := .fields #[.none, .bool false, .ref s.heap.objs.size, rawInt 0, .none, .none] }) rfl
    rw [hz] at this; exact this
  exact ⟨⟨_, he, rfl⟩, h _ he ⟨_, Heap.get?_push_of_some _ (Heap.get?_push_size _ rfl), rfl, rfl⟩ (by rw [Heap.size_push, hz]) fun b o x => Heap.get?_push_of_some _ (Heap.get?_push_of_some _ x)⟩
end
/-- the tuple at a, each item in a new pair -/
def ItE (K : PySem.W.Frag) (a : Addr) : L2.It :=
  ⟨fun i H => ∃ (xs : List V) (x : V), SqT K H a xs ∧ xs[i]? = some x, fun i H v H' => ∃ T x, v = .ref T ∧ H T = none ∧ H' = upd H T (.tup [.int (i : Nat), x]) ∧ ∀ xs, SqT K H a xs → xs[i]? = some x, fun i H => ∃ xs : List V, SqT K H a xs ∧ xs.length ≤ i⟩
theorem turn_enumT {P : Program} {w : World} {K : PySem.W.Frag} {elts : List Expr} {kk : Nat} {tpos : Pos} (a e it : Addr) :
    Turn P w K (.Tuple elts kk tpos) (ItE K a) [e, it] e (fun i h => (∃ old, IsEnum h e it ((i : Nat) : Int) old) ∧ h.IsTupleIter it a i ∧ e ≠ it ∧ a ≠ it ∧ e ≠ a) where
  mem := by simp
  obj := fun i h st b hb => by
    obtain ⟨⟨old, he⟩, ⟨o, ho, hc, hd⟩, _⟩ := st
    have e' : b = e ∨ b = it := by simpa using hb
    rcases e' with z | z
    · rw [z]; exact ⟨_, he, fun v q => nomatch q⟩
    · rw [z]; exact ⟨o, ho, fun v q => by rw [hd] at q; cases q⟩
  keep := fun i h h' st k => let ⟨⟨old, he⟩, hi, hne⟩ := st; ⟨⟨old, k e (by simp) _ he⟩, hi.at fun o q => k it (by simp) o q, hne⟩
  item := by
    intro X hP hw hK hc i pins s σ H E I hf st hg
    subst hP hw hK
    obtain ⟨⟨old, he⟩, hit, hne, hai, hea⟩ := st
    obtain ⟨xs, x, hq, hx⟩ := hg
    obtain ⟨its, rv, p, hz⟩ := I.tuple hq
    obtain ⟨u, hu, ru⟩ := rv.get hx
    have hel : e < s.heap.objs.size := Heap.lt_size he
    have hil : it < s.heap.objs.size := by obtain ⟨_, q, _⟩ := hit; exact Heap.lt_size q
    have hh : X.A.in1.handled = none := I.ok.hd hc
    have D := Draws.tuple (prog := X.prog) (w := X.w) hh it a hai its.toArray
    have hlt : i < its.toArray.size := by
      rcases Nat.lt_or_ge i its.length with h | h
      · simpa using h
      · rw [List.getElem?_eq_none h] at hu; cases hu
    refine wpAny_pyNext_enum_itemD D he ⟨hit, p⟩ hlt hne (by simp; exact ⟨hne, hea⟩) fun y h' tk hy ho hst hT hsz hk => ?_
    have eu : u = y := by
      rw [show its.toArray[i]? = its[i]? by simp, hu] at hy
      exact Option.some.inj hy
    subst eu
    refine ⟨_, rfl, wpAny_letOwnedTupleGo_enum (s := { s with heap := h', toks := tk + 1 }) ho fun h'' he' sb => ?_⟩
    have hT2 : h''.get? s.heap.objs.size = some { cls := .type "tuple", data := .seq #[.int i tk, u] } := (sb.2 _ (Nat.ne_of_gt hel)).trans hT
    have new : ObjOk X.prog X.w (upd H s.heap.objs.size (.tup [.int (i : Nat), x])) h'' s.heap.objs.size (.tup [.int (i : Nat), x]) :=
      ⟨by show 2 ≤ sizeLine; decide, [.int i tk, u], .cons ⟨_, rfl⟩ (.cons ru .nil), ⟨_, hT2, rfl, _, rfl⟩⟩
    have I1 : Inv X pins σ (upd H s.heap.objs.size (.tup [.int (i : Nat), x])) { s with heap := h'', toks := tk + 1 } :=
      I.turnedNew (ch := [e, it]) (fun b ob hb q => (sb.2 b (fun z => hb (by simp [z]))).trans (hk b ob (fun z => hb (by simp [z])) (fun z => hb (by simp [z])) q)) hf (Nat.le_refl _) new
    refine ⟨.ref s.heap.objs.size, _, I1, rfl, ⟨_, x, rfl, I.hok.fresh (Nat.le_refl _), rfl, fun ys hy => by rw [I.tuple_inj hy hq]; exact hx⟩, ⟨⟨u, ?_⟩, hst.1.at fun o q => (sb.2 it (Ne.symm hne)).trans q, hne, hai, hea⟩, fun b hb => ?_⟩
    · have e1 : ((i + 1 : Nat) : Int) = (i : Int) + 1 := by omega
      rw [e1]; exact he'
    · have hb' : b < s.heap.objs.size := by
        have e' : b = e ∨ b = it := by simpa using hb
        rcases e' with z | z
        · rw [z]; exact hel
        · rw [z]; exact hil
      rw [upd_ne (Nat.ne_of_lt hb')]
      exact (hf b hb).1
  done := by
    intro X hP hw hK hc i pins s σ H E I hf st hg
    subst hP hw hK
    obtain ⟨⟨old, he⟩, hit, hne, hai, hea⟩ := st
    obtain ⟨xs, hq, hx⟩ := hg
    obtain ⟨its, rv, p, hz⟩ := I.tuple hq
    obtain ⟨f0, f1, f2, f3, f4, f5⟩ := hf it (by simp)
    have hl := rv.length
    have hh : X.A.in1.handled = none := I.ok.hd hc
    have hdone : Draws X.prog X.w X.A.in1 it [it, a] 0 (fun _ _ => True) (fun _ h => h.IsTupleIter it a i ∧ h.IsTuple a its.toArray) := {
      live := fun _ _ st => let ⟨o, ho, _⟩ := st.1; ⟨o, ho⟩
      frame := fun _ _ _ st hk => ⟨st.1.at fun o e => hk it (by simp) o e, st.2.at fun o e => hk a (by simp) o e⟩
      item := fun j s Q E hj st hQ => by omega
      done := fun s Q E st hE => wpAny_nextOf_tuple_end hh st.1 st.2 (by simp; omega) hE }
    exact wpAny_pyNext_enum_endD hdone he ⟨hit, p⟩ fun h' eb => ⟨rfl, I.turned (t' := s.toks) (fun b o hb q => eb b o hb q) f0 f1 f3 f4 f5⟩
  self := fun A i s Q E st h => let ⟨⟨_, he⟩, _⟩ := st; wpAny_pyIter_enum he h
def iEnum2 (K : PySem.W.Frag) (ta : TA) : TI := fun σ H R => ta σ H fun vs H1 => ∃ a xs, vs = [.ref a] ∧ ((SqL K H1 a xs ∧ R (Ite K a) H1) ∨ (SqT K H1 a xs ∧ R (ItE K a) H1))
theorem pi_enum2 {X : Cx} {e : Expr} {ta : TA} {p pos tpos : Pos} {elts : List Expr} {kk : Nat} (hg : Gl X "enumerate") (hm : X.mg "enumerate" = none) (ha : PA X [e] ta) (hs : starEach [e] X.env = [(false, eval e X.env)] := by rfl) :
    PI X (.Tuple elts kk tpos) (.Call (.Name "enumerate" p) [e] [] pos) (iEnum2 X.K ta) := by
  refine ⟨fun pins s σ H R I h => ?_⟩
  refine Call_ (ld_blt I hg hm boot_enumerate (PyProof.Rows.callWith_type1 (thn (ha.run pos pins s σ H _ I h) fun us s1 ⟨vs, H1, I1, r1, q1⟩ => ?_) hs rfl))
  obtain ⟨a, xs, ex, q⟩ := q1
  subst ex
  cases r1 with
  | cons r rr =>
    cases rr
    cases r
    have hfp : ∀ b ∈ [s1.heap.objs.size + 1, s1.heap.objs.size], s1.heap.objs.size ≤ b := fun b hb => by
      have e' : b = s1.heap.objs.size + 1 ∨ b = s1.heap.objs.size := by simpa using hb
      rcases e' with z | z
      · rw [z]; exact Nat.le_add_right _ _
      · rw [z]; exact Nat.le_refl _
    rcases q with ⟨hq, q⟩ | ⟨hq, q⟩
    · obtain ⟨its, rv, p', hz⟩ := I1.list hq
      refine call_enumerate_list p'.isList fun h' he hit hsz hk => wpAny_pyIter_enum he ?_
      have I2 : Inv X pins σ H1 { s1 with heap := h' } := I1.kept (t' := s1.toks) hk
      exact ⟨s1.heap.objs.size + 1, [s1.heap.objs.size + 1, s1.heap.objs.size], _, _, H1, rfl, I2, turn_enum a (s1.heap.objs.size + 1) s1.heap.objs.size, ⟨⟨.none, he⟩, hit, Nat.succ_ne_self _⟩, fun b hb => I1.fpOk (hfp b hb) (I1.hok.fresh (hfp b hb)), q⟩
    · obtain ⟨its, rv, p', hz⟩ := I1.tuple hq
      have pa : s1.heap.IsTuple a its.toArray := p'
      have hlt : a < s1.heap.objs.size := by obtain ⟨o, ho, _⟩ := pa; exact Heap.lt_size ho
      refine call_enumerate_tuple pa fun h' he hit hsz hk => wpAny_pyIter_enum he ?_
      have I2 : Inv X pins σ H1 { s1 with heap := h' } := I1.kept (t' := s1.toks) hk
      exact ⟨s1.heap.objs.size + 1, [s1.heap.objs.size + 1, s1.heap.objs.size], _, _, H1, rfl, I2, turn_enumT a (s1.heap.objs.size + 1) s1.heap.objs.size, ⟨⟨.none, he⟩, hit, Nat.succ_ne_self _, Nat.ne_of_lt hlt, Nat.ne_of_gt (Nat.lt_succ_of_lt hlt)⟩, fun b hb => I1.fpOk (hfp b hb) (I1.hok.fresh (hfp b hb)), q⟩
section
variable {X : Cx} {a b : Expr} {ea : Ex} {k : Nat} {C : Calls} {G : Nat → D} {B : Bk} {pos : Pos}
theorem i_enum2 {p tpos : Pos} {elts : List Expr} {kk : Nat} (hg : Gl X "enumerate") (hm : X.mg "enumerate" = none) (ha : PE X a (spE X.K B C G ea 0)) (hs : starEach [a] X.env = [(false, eval a X.env)]) :
    PI X (.Tuple elts kk tpos) (.Call (.Name "enumerate" p) [a] [] pos) (spI X.K B (evI C G (.enum ea))) :=
  (pi_enum2 hg hm (pa_cons ha pa_nil (by rw [hs]; rfl)) hs).imp fun σ H R ⟨ρ, Z, F, ds, ρ', s, e, q⟩ => by
    simp only [evI] at e
    obtain ⟨⟨x, ρ1⟩, e1, e⟩ := Option.bind_eq_some_iff.mp e
    refine ⟨ρ, Z, F, x, ρ1, s, e1, fun v H2 Z2 F2 T1 s2 r1 w1 => ?_⟩
    have fx := (ow_zero.1 w1).1
    dsimp only at e
    split at e
    · cases e
      unfold Fz at fx
      obtain ⟨a1, vs, rfl, h1, f1⟩ := fx
      have l1 := s2.gd a1 vs (.inl (.inl h1.1))
      refine ⟨a1, vs, rfl, .inl ⟨.inl (.inl h1.1), q _ H2 Z2 F2 s2 r1.ps ⟨?_, fun k => ?_, fun {B σ ρ H' Z' F'} s' k zz i hi => ?_⟩⟩⟩
      · rw [enumD_len, f1.length]; exact l1
      · refine ⟨vs, .inl (.inl (k _ _ h1.1 (.inl h1.2))), ?_⟩
        rw [enumD_len, f1.length]
        exact Nat.le_refl _
      · obtain ⟨p, g1, g3⟩ := enumD_get hi
        obtain ⟨x, g4, g5⟩ := (f1.mono k zz).get g1
        have n1 : SqL X.K H' a1 vs := .inl (.inl (k _ _ h1.1 (.inl h1.2)))
        refine ⟨⟨vs, x, n1, g4⟩, fun z Hz yl => ?_⟩
        obtain ⟨T, x', rfl, n, rfl, y1⟩ := yl
        have y1 := y1 vs n1
        rw [g4] at y1
        cases y1
        rw [g3, Nat.zero_add]
        exact yld_pair s' n (by rfl) g5
    · cases e
      unfold Fz at fx
      obtain ⟨a1, vs, rfl, h1, f1⟩ := fx
      have l1 := sqT_len s2 h1
      refine ⟨a1, vs, rfl, .inr ⟨h1, q _ H2 Z2 F2 s2 r1.ps ⟨?_, fun k => ?_, fun {B σ ρ H' Z' F'} s' k zz i hi => ?_⟩⟩⟩
      · rw [enumD_len, f1.length]; exact l1
      · refine ⟨vs, sqT_mono h1 fun a o e n => k a o e (.inr n), ?_⟩
        rw [enumD_len, f1.length]
        exact Nat.le_refl _
      · obtain ⟨p, g1, g3⟩ := enumD_get hi
        obtain ⟨x, g4, g5⟩ := (f1.mono k zz).get g1
        have n1 : SqT X.K H' a1 vs := sqT_mono h1 fun a o e n => k a o e (.inr n)
        refine ⟨⟨vs, x, n1, g4⟩, fun z Hz yl => ?_⟩
        obtain ⟨T, x', rfl, n, rfl, y1⟩ := yl
        have y1 := y1 vs n1
        rw [g4] at y1
        cases y1
        rw [g3, Nat.zero_add]
        exact yld_pair s' n (by rfl) g5
    · cases e
end
end
end BW

/-! BwX2: methods of lists, texts and numbers that tell something. -/
namespace BW
noncomputable section
open PySem PySem.Spec PyProof.Rows L2
section
variable {X : Cx} {o : Expr} {eo : Ex} {k : Nat} {C : Calls} {G : Nat → D} {B : Bk}
theorem fzL_strs {K : PySem.W.Frag} {H : Hp} {Z : AS} : ∀ {l : List D} {vs : List V} {ns : List Str}, FzL K H Z l vs → strsOf' l = some ns → vs = ns.map V.str
  | [], vs, ns, h, e => by
    unfold FzL at h
    cases e
    exact h
  | d :: l, vs, ns, h, e => by
    unfold FzL at h
    obtain ⟨v, ws, rfl, h1, h2⟩ := h
    cases d with
    | str i =>
      unfold strsOf' at e
      obtain ⟨ms, e1, rfl⟩ := Option.map_eq_some_iff.mp e
      rw [fzL_strs h2 e1]
      rw [show v = V.str i from h1]
      rfl
    | _ => unfold strsOf' at e; cases e
theorem fzL_ofStrs {K : PySem.W.Frag} {H : Hp} {Z : AS} : ∀ (ns : List Str), FzL K H Z (ns.map PyData.str) (ns.map V.str)
  | [] => by unfold FzL; rfl
  | n :: ns => by
    unfold FzL
    exact ⟨_, _, rfl, rfl, fzL_ofStrs ns⟩
def MthFin (X : Cx) (B : Bk) (m : Mth) (r : V → List V → Hp → VK → Prop) : Prop :=
  ∀ {σ : L2.St} {ρ : Env} {H : Hp} {Z : AS} {F : FS} {d z : D} {ds : List D} {kd k : Nat} {v : V} {xs : List V} {T : AS} {Q : VK}, mthD m d ds = some z → SR X.K B σ ρ H Z F → Ow X.K H Z d kd v T → kd ≤ 1 → FzL X.K H Z ds xs → k ≤ 1 → Kn X.K B σ ρ H Z F z k Q → r v xs H Q
def MthTy (K : PySem.W.Frag) (m : Mth) (T : String) : Prop := ∀ {H : Hp} {Z : AS} {d : D} {kd : Nat} {v : V} {T1 : AS}, Ow K H Z d kd v T1 → rcOk m d = true → tyV K T v H
theorem mth_ev {m : Mth} {es : Exs} {T : String} {r : V → List V → Hp → VK → Prop} (hT : MthTy X.K m T) (hf : MthFin X B m r) (hk : k ≤ 1) : ∀ σ H Q, spE X.K B C G (.mth m eo es) k σ H Q → tBM X.K T r (spO X.K B (opX C G eo)) (spL X.K B (evL C G es) 0) σ H Q := fun σ H Q ⟨ρ, Z, F, d, ρ', s, e, q⟩ => by
  simp only [evE] at e
  obtain ⟨⟨p, ρ1⟩, e1, e⟩ := Option.bind_eq_some_iff.mp e
  obtain ⟨⟨k1, y⟩, e2, e⟩ := Option.bind_eq_some_iff.mp e
  split at e
  case isFalse => cases e
  rename_i hrc
  obtain ⟨⟨ds, ρ2⟩, e3, e⟩ := Option.bind_eq_some_iff.mp e
  obtain ⟨⟨k2, x⟩, e4, e⟩ := Option.bind_eq_some_iff.mp e
  split at e
  case isFalse => cases e
  rename_i hk2
  obtain ⟨z, e5, e⟩ := Option.bind_eq_some_iff.mp e
  cases e
  refine ⟨ρ, Z, F, p, ρ1, s, e1, fun v H1 Z1 F1 s1 p1 ov => ?_⟩
  obtain ⟨T1, ow1⟩ := ov.view s1 e2
  refine ⟨hT ow1 hrc, ρ1, Z1, F1, ds, _, s1, e3, fun vs H2 Z2 F2 T2 s2 r2 o2 => ?_⟩
  obtain ⟨T3, ow2⟩ := (ov.ps s1 r2.ps).view s2 e4
  exact hf e5 s2 ow2 hk2 (owL_zero.1 o2).1 hk (q.pre (p1.trans r2.ps))
theorem mth_ev0 {m : Mth} {T : String} {r : V → List V → Hp → VK → Prop} (hT : MthTy X.K m T) (hf : MthFin X B m r) (hk : k ≤ 1) : ∀ σ H Q, spE X.K B C G (.mth m eo .nil) k σ H Q → tBM0 X.K T r (spO X.K B (opX C G eo)) σ H Q := fun σ H Q ⟨ρ, Z, F, d, ρ', s, e, q⟩ => by
  simp only [evE, evL] at e
  obtain ⟨⟨p, ρ1⟩, e1, e⟩ := Option.bind_eq_some_iff.mp e
  obtain ⟨⟨k1, y⟩, e2, e⟩ := Option.bind_eq_some_iff.mp e
  split at e
  case isFalse => cases e
  rename_i hrc
  simp only [Option.bind_some] at e
  obtain ⟨⟨k2, x⟩, e4, e⟩ := Option.bind_eq_some_iff.mp e
  split at e
  case isFalse => cases e
  rename_i hk2
  obtain ⟨z, e5, e⟩ := Option.bind_eq_some_iff.mp e
  cases e
  refine ⟨ρ, Z, F, p, _, s, e1, fun v H1 Z1 F1 s1 p1 ov => ?_⟩
  obtain ⟨T1, ow1⟩ := ov.view s1 e2
  obtain ⟨T3, ow2⟩ := ov.view s1 e4
  exact ⟨hT ow1 hrc, hf e5 s1 ow2 hk2 (by unfold FzL; rfl) hk (q.pre p1)⟩
theorem ow_lst_ty {K : PySem.W.Frag} {H : Hp} {Z : AS} {l : List D} {kd : Nat} {v : V} {T1 : AS} (h : Ow K H Z (.list l) kd v T1) : tyV K "list" v H := by
  cases kd with
  | zero =>
    unfold Ow at h
    obtain ⟨⟨a, vs, rfl, s, _⟩, _⟩ := h
    exact ty_list s.1
  | succ kd =>
    unfold Ow at h
    obtain ⟨a, vs, T', rfl, ha, _⟩ := h
    exact ty_list ha
theorem ty_index {K : PySem.W.Frag} : MthTy K .index "list" := fun {H Z d kd v T1} h e => by
  cases d with
  | list l => exact ow_lst_ty h
  | _ => cases e
theorem ty_count {K : PySem.W.Frag} : MthTy K .count "list" := fun {H Z d kd v T1} h e => by
  cases d with
  | list l => exact ow_lst_ty h
  | _ => cases e
theorem ty_join {K : PySem.W.Frag} : MthTy K .join "str" := fun {H Z d kd v T1} h e => by
  cases d with
  | str l => obtain rfl := ow_str h; rfl
  | _ => cases e
theorem ty_split {K : PySem.W.Frag} : MthTy K .split "str" := fun {H Z d kd v T1} h e => by
  cases d with
  | str l => obtain rfl := ow_str h; rfl
  | _ => cases e
theorem ty_bits {K : PySem.W.Frag} : MthTy K .bitlen "int" := fun {H Z d kd v T1} h e => by
  cases d with
  | int l => obtain rfl := ow_int h; rfl
  | _ => cases e
theorem fin_index : MthFin X B .index (rIndexD X.K) := fun {σ ρ H Z F d z ds kd k v xs T Q} e s o hkd f hk q => by
  cases d with
  | list l =>
    rcases ds with _ | ⟨y, _ | ⟨y2, ds⟩⟩
    · cases e
    · replace e : indexD l y = some z := e
      unfold indexD at e
      split at e
      case isFalse => cases e
      rename_i hs
      split at e
      case isFalse => cases e
      rename_i hl
      cases e
      simp only [Bool.and_eq_true] at hs
      unfold FzL at f
      obtain ⟨u, us, rfl, f1, f2⟩ := f
      unfold FzL at f2
      subst f2
      have dp := o.dp
      obtain ⟨a, vs, rfl, ha, fa⟩ := seq_of_ow o hkd
      refine ⟨a, u, y, l, _, _, rfl, rfl, dp, f1.dp, hs.1, hs.2, List.getElem?_eq_getElem hl, ?_, ?_, kn_int q s⟩
      · exact List.findIdx_getElem (w := hl)
      · intro m z' hm hz
        have hm2 : m < l.length := by omega
        rw [List.getElem?_eq_getElem hm2] at hz
        cases hz
        have := List.not_of_lt_findIdx hm
        simpa using this
    · cases e
  | _ => rcases ds with _ | ⟨y, _ | ⟨y2, ds⟩⟩ <;> cases e
def rCountD (K : PySem.W.Frag) : V → List V → Hp → VK → Prop := fun x xs H Q => ∃ (a : Addr) (y : V) (d : PyData) (ds : List PyData), x = V.ref a ∧ xs = [y] ∧ Dp K H (V.ref a) (.list ds) ∧ Dp K H y d ∧ SeqAt.shaped (.list ds) = true ∧ SeqAt.shaped d = true ∧ Q (.int (ds.countP fun z => PyData.eqv z d : Nat)) H
theorem mt_countD (hu : X.A.units + 65 < cLine) : MtR X "list.count" (rCountD X.K) := by
  intro pins s σ H x xs v us Q I rx rxs h
  obtain ⟨a, y, d, ds, rfl, rfl, hl, hy, sl, sd, q⟩ := h
  cases rx
  cases rxs with
  | cons ry rt =>
    rename_i uy ut
    cases rt
    obtain ⟨bs, r1⟩ := Dp.reads I d y uy hy ry
    have hxs : PyData.canLayAll0 ds = true := SeqAt.canLay_of_shaped sl
    have hroom : X.A.units + 1 + min (PyData.depthAll ds) d.depth < cLine := room_in_shaped sd hu
    cases hl with
    | lst hs ha =>
      obtain ⟨its, rv, ⟨⟨cls, dd, data, sls⟩, n, ho, hc, hdn, hdt⟩, hlen⟩ := I.list hs
      simp only at hc hdt
      subst hc hdt
      obtain ⟨as, h4⟩ := Dp.readsAll I ds _ its ha rv
      have hmap : its.map (SeqAt.readOf s.heap) = ds := SeqAt.readsAll_map ds its as hxs h4
      refine call_meets PySem.F.slot_list_count ⟨_, ho, rfl⟩ PySem.F.entry_list_count (PySem.F.args_list_count_2 _ _)
        (SeqAt.list_countAt a its.toArray n dd sls uy (fun u => PyData.eqv (SeqAt.readOf s.heap u) d)) ⟨ho, SeqAt.items_eqAt (vs := its.toArray) (show ReadsAll s.heap its.toArray.toList ds as from h4) r1 hxs (SeqAt.canLay_of_shaped sd) hroom, ?_⟩
      have ec : its.toArray.toList.countP (fun u => PyData.eqv (SeqAt.readOf s.heap u) d) = ds.countP fun z => PyData.eqv z d := by
        rw [← hmap, List.countP_map]
        rfl
      refine ⟨.int (ds.countP (fun z => PyData.eqv z d) : Nat), H, I.tok _, ⟨s.toks, ?_⟩, q⟩
      show Value.int ((its.toArray.toList.countP (fun u => PyData.eqv (SeqAt.readOf s.heap u) d) : Nat) : Int) s.toks = _
      rw [ec]
def rCnt2 (K : PySem.W.Frag) : V → List V → Hp → VK → Prop := fun x xs H Q => rCntI K x xs H Q ∨ rCountD K x xs H Q
theorem mt_count2 (hu : X.A.units + 65 < cLine) : MtR X "list.count" (rCnt2 X.K) := fun pins s σ H x xs v us Q I rx rxs h => h.elim (mt_lcount pins s σ H x xs v us Q I rx rxs) (mt_countD hu pins s σ H x xs v us Q I rx rxs)
theorem fin_count : MthFin X B .count (rCnt2 X.K) := fun {σ ρ H Z F d z ds kd k v xs T Q} e s o hkd f hk q => by
  cases d with
  | list l =>
    rcases ds with _ | ⟨y, _ | ⟨y2, ds⟩⟩
    · cases e
    · cases y with
      | int i =>
        replace e : (intsOf l).bind (fun ns => some (PyData.int (ns.count i : Nat))) = some z := e
        obtain ⟨ns, e1, e⟩ := Option.bind_eq_some_iff.mp e
        cases e
        unfold FzL at f
        obtain ⟨u, us, rfl, f1, f2⟩ := f
        unfold FzL at f2
        subst f2
        obtain ⟨a, vs, rfl, ha, fa⟩ := seq_of_ow o hkd
        have := fzL_ints fa e1
        subst this
        exact .inl ⟨a, ns, i, rfl, by rw [show u = V.int i from f1], .inl (.inl ha), kn_int q s⟩
      | bool b =>
        replace e : (if (SeqAt.shaped (.list l) && SeqAt.shaped (.bool b)) = true then some (PyData.int (l.countP fun w => PyData.eqv w (.bool b) : Nat)) else none) = some z := e
        split at e
        case isFalse => cases e
        rename_i hs
        cases e
        simp only [Bool.and_eq_true] at hs
        unfold FzL at f
        obtain ⟨u, us, rfl, f1, f2⟩ := f
        unfold FzL at f2
        subst f2
        have dp := o.dp
        obtain ⟨a, vs, rfl, ha, fa⟩ := seq_of_ow o hkd
        exact .inr ⟨a, u, .bool b, l, rfl, rfl, dp, f1.dp, hs.1, hs.2, kn_int q s⟩
      | _ => cases e
    · cases e
  | _ => rcases ds with _ | ⟨y, _ | ⟨y2, ds⟩⟩ <;> cases e
def rSplitD : V → List V → Hp → VK → Prop := fun x xs H Q => ∃ a b, x = .str a ∧ xs = [.str b] ∧ (b.length == 0) = false ∧ a.length + 2 ≤ sizeLine ∧ rNewStrs (Txt.split a b) H Q
def rJoinD (K : PySem.W.Frag) : V → List V → Hp → VK → Prop := fun x xs H Q => ∃ a p, ∃ ys : List Str, x = .str a ∧ xs = [.ref p] ∧ (SqL K H p (ys.map V.str) ∨ SqT K H p (ys.map V.str)) ∧ (ys.map (·.length)).sum + ys.length * a.length ≤ 16777216 ∧ Q (.str (Txt.join a ys)) H
def rBitsD : V → List V → Hp → VK → Prop := fun x xs H Q => ∃ i, x = .int i ∧ Q (.int (Builtin.Int.intBits i : Nat)) H
theorem fin_bits : MthFin X B .bitlen rBitsD := fun {σ ρ H Z F d z ds kd k v xs T Q} e s o hkd f hk q => by
  cases d with
  | int l =>
    cases ds with
    | nil => cases e; exact ⟨l, ow_int o, kn_int q s⟩
    | cons y ds => cases ds <;> cases e
  | _ => rcases ds with _ | ⟨y, _ | ⟨y2, ds⟩⟩ <;> cases e
theorem fin_join : MthFin X B .join (rJoinD X.K) := fun {σ ρ H Z F d z ds kd k v xs T Q} e s o hkd f hk q => by
  cases d with
  | str l =>
    obtain rfl := ow_str o
    rcases ds with _ | ⟨y, _ | ⟨y2, ds⟩⟩
    · cases e
    · unfold FzL at f
      obtain ⟨u, us, rfl, f1, f2⟩ := f
      unfold FzL at f2
      subst f2
      cases y with
      | list ys =>
        replace e : joinD l ys = some z := e
        unfold joinD at e
        obtain ⟨ns, e1, e⟩ := Option.bind_eq_some_iff.mp e
        split at e
        case isFalse => cases e
        rename_i hz
        cases e
        unfold Fz at f1
        obtain ⟨a, vs, rfl, h1, f1⟩ := f1
        have := fzL_strs f1 e1
        subst this
        exact ⟨l, a, ns, rfl, rfl, .inl (.inl (.inl h1.1)), hz, kn_str q s⟩
      | tuple ys =>
        replace e : joinD l ys = some z := e
        unfold joinD at e
        obtain ⟨ns, e1, e⟩ := Option.bind_eq_some_iff.mp e
        split at e
        case isFalse => cases e
        rename_i hz
        cases e
        unfold Fz at f1
        obtain ⟨a, vs, rfl, h1, f1⟩ := f1
        have := fzL_strs f1 e1
        subst this
        exact ⟨l, a, ns, rfl, rfl, .inr h1, hz, kn_str q s⟩
      | _ => cases e
    · cases e
  | _ => rcases ds with _ | ⟨y, _ | ⟨y2, ds⟩⟩ <;> cases e
theorem fin_split : MthFin X B .split rSplitD := fun {σ ρ H Z F d z ds kd k v xs T Q} e s o hkd f hk q => by
  cases d with
  | str l =>
    obtain rfl := ow_str o
    rcases ds with _ | ⟨y, _ | ⟨y2, ds⟩⟩
    · cases e
    · unfold FzL at f
      obtain ⟨u, us, rfl, f1, f2⟩ := f
      unfold FzL at f2
      subst f2
      cases y with
      | str b =>
        replace e : (if b.length ≠ 0 ∧ l.length + 2 ≤ 16777216 then some (PyData.list ((Txt.split l b).map .str)) else none) = some z := e
        split at e
        case isFalse => cases e
        rename_i hz
        cases e
        have hl : sizeLine = 16777216 := sizeLine_eq
        refine ⟨l, b, rfl, by rw [show u = V.str b from f1], by simpa using hz.1, by omega, fun p n => kn_lst q s n (fzL_ofStrs _) ?_ hk⟩
        have := PyProof.Rows.split_le l b
        rw [List.length_map]
        omega
      | _ => cases e
    · cases e
  | _ => rcases ds with _ | ⟨y, _ | ⟨y2, ds⟩⟩ <;> cases e
def mthN : Mth → Str
  | .index => "index"
  | .count => "count"
  | .join => "join"
  | .split => "split"
  | .bitlen => "bit_length"
theorem s_mth1 {m : Mth} {b : Expr} {es : Exs} {ap cp : Pos} (hm : m ≠ .bitlen) (hu : X.A.units + 65 < cLine) (ho : PE X o (spO X.K B (opX C G eo))) (ha : PA X [b] (spL X.K B (evL C G es) 0))
    (hbase : ∀ y, attributeBase o y X.env (eval o X.env) = eval o X.env) (hline : (ap.endLine == cp.line) = true) (st : starEach [b] X.env = (false, eval b X.env) :: starEach [] X.env) (hk : k ≤ 1) :
    PE X (.Call (.Attribute o (mthN m) ap) [b] [] cp) (spE X.K B C G (.mth m eo es) k) := by
  cases m with
  | index => exact (pe_bm F.plainAttrs_list F.slot_list_index F.type_list_index (mt_indexD hu) ho ha (hbase _) (by rw [st]; rfl) hline st rfl).imp (mth_ev ty_index fin_index hk)
  | count => exact (pe_bm F.plainAttrs_list F.slot_list_count F.type_list_count (mt_count2 hu) ho ha (hbase _) (by rw [st]; rfl) hline st rfl).imp (mth_ev ty_count fin_count hk)
  | join => exact (pe_bm F.plainAttrs_str F.slot_str_join F.type_str_join mt_join ho ha (hbase _) (by rw [st]; rfl) hline st rfl).imp (mth_ev ty_join fin_join hk)
  | split => exact (pe_bm F.plainAttrs_str F.slot_str_split F.type_str_split mt_split ho ha (hbase _) (by rw [st]; rfl) hline st rfl).imp (mth_ev ty_split fin_split hk)
  | bitlen => exact absurd rfl hm
theorem s_mth0 {ap cp : Pos} (ho : PE X o (spO X.K B (opX C G eo))) (hbase : ∀ y, attributeBase o y X.env (eval o X.env) = eval o X.env) (hline : (ap.endLine == cp.line) = true) (hk : k ≤ 1) :
    PE X (.Call (.Attribute o (mthN .bitlen) ap) [] [] cp) (spE X.K B C G (.mth .bitlen eo .nil) k) :=
  (pe_bits ho (hbase _) hline).imp fun σ H Q h => by
    obtain ⟨ρ, Z, F, p, ρ', s, e, q⟩ := mth_ev0 ty_bits fin_bits hk σ H Q h
    exact ⟨ρ, Z, F, p, ρ', s, e, fun v H' Z' F' s' p' ov => (q v H' Z' F' s' p' ov).2⟩
end
end
end BW

/-! BwX3: tables of the module, written tables, chains of three, how many unlike ones. -/
namespace BW
noncomputable section
open PySem PySem.Spec PyProof.Rows L2
section
variable {K : PySem.W.Frag} {H H' : Hp} {Z : AS}
/-- a table's entries change nothing else -/
abbrev KeepD (H H' : Hp) : Prop := ∀ a o, H a = some o → (∀ m, o ≠ .dK m) → H' a = some o
theorem sqT_kd {a : Addr} {vs : List V} (k : KeepD H H') (h : SqT K H a vs) : SqT K H' a vs := by
  rcases h with (h | ⟨o, h⟩) | h
  · exact .inl (.inl (k _ _ h fun m e => by cases e))
  · exact .inl (.inr ⟨o, k _ _ h fun m e => by cases e⟩)
  · exact .inr h
mutual
theorem Fz.kd (k : KeepD H H') : ∀ {d : D} {v : V}, Fz K H Z d v → Fz K H' Z d v
  | .none, _, h => h
  | .bool _, _, h => h
  | .int _, _, h => h
  | .str _, _, h => h
  | .list l, v, h => by
    unfold Fz at h ⊢
    obtain ⟨a, vs, e, ⟨s, z⟩, q⟩ := h
    exact ⟨a, vs, e, ⟨k _ _ s (fun m e => by cases e), z⟩, FzL.kd k q⟩
  | .tuple l, v, h => by
    unfold Fz at h ⊢
    obtain ⟨a, vs, e, s, q⟩ := h
    exact ⟨a, vs, e, sqT_kd k s, FzL.kd k q⟩
  | .dict _, _, h => by unfold Fz at h; exact h.elim
theorem FzL.kd (k : KeepD H H') : ∀ {l : List D} {vs : List V}, FzL K H Z l vs → FzL K H' Z l vs
  | [], _, h => h
  | d :: ds, vs, h => by
    unfold FzL at h ⊢
    obtain ⟨v, ws, e, h1, h2⟩ := h
    exact ⟨v, ws, e, Fz.kd k h1, FzL.kd k h2⟩
end
mutual
theorem Ow.kd (k : KeepD H H') : ∀ {d : D} {j : Nat} {v : V} {T : AS}, Ow K H Z d j v T → Ow K H' Z d j v T
  | .none, _, _, _, h => h
  | .bool _, _, _, _, h => h
  | .int _, _, _, _, h => h
  | .str _, _, _, _, h => h
  | .list l, 0, v, T, h => by
    unfold Ow at h ⊢
    obtain ⟨⟨a, vs, e, ⟨s, z⟩, q⟩, t⟩ := h
    exact ⟨⟨a, vs, e, ⟨k _ _ s (fun m e => by cases e), z⟩, FzL.kd k q⟩, t⟩
  | .list l, j + 1, v, T, h => by
    unfold Ow at h ⊢
    obtain ⟨a, vs, T', e, ha, na, q, t⟩ := h
    exact ⟨a, vs, T', e, k _ _ ha fun m e => (by cases e), na, OwL.kd k q, t⟩
  | .tuple l, j, v, T, h => by
    unfold Ow at h ⊢
    obtain ⟨⟨a, vs, e, s, q⟩, t⟩ := h
    exact ⟨⟨a, vs, e, sqT_kd k s, FzL.kd k q⟩, t⟩
  | .dict _, _, _, _, h => by unfold Ow at h; exact h.elim
theorem OwL.kd (k : KeepD H H') : ∀ {l : List D} {j : Nat} {vs : List V} {T : AS}, OwL K H Z l j vs T → OwL K H' Z l j vs T
  | [], _, _, _, h => h
  | d :: ds, j, vs, T, h => by
    unfold OwL at h ⊢
    obtain ⟨v, ws, T1, T2, e, h1, h2, dj, t⟩ := h
    exact ⟨v, ws, T1, T2, e, Ow.kd k h1, OwL.kd k h2, dj, t⟩
end
theorem SlotR.kd {b x : Option (Option V)} {T : AS} {r : R} (k : KeepD H H') (h : SlotR K b H Z x T r) : SlotR K b H' Z x T r := by
  cases r with
  | un => exact h
  | val d =>
    obtain ⟨v, e, f, t⟩ := h
    exact ⟨v, e, f.kd k, t⟩
  | own j d =>
    obtain ⟨v, e, f⟩ := h
    exact ⟨v, e, f.kd k⟩
  | io j d =>
    obtain ⟨eb, v, e, f⟩ := h
    exact ⟨eb, v, e, f.kd k⟩
  | scr l =>
    obtain ⟨⟨a, e, f⟩, t⟩ := h
    refine ⟨⟨a, e, ?_⟩, t⟩
    rcases f with ⟨ob, f⟩ | f
    · exact .inl ⟨ob, k _ _ f fun m e => by cases e⟩
    · exact .inr f
  | exc l =>
    obtain ⟨⟨a, e, f⟩, t⟩ := h
    exact ⟨⟨a, e, k _ _ f.1 (fun m e => by cases e), f.2⟩, t⟩
theorem SR.dk {B : Bk} {σ : L2.St} {ρ : Env} {F : FS} {p : Addr} {m m' : List (Key × V)} (s : SR K B σ ρ H Z F) (e : H p = some (.dK m)) : SR K B σ ρ (upd H p (.dK m')) Z F := by
  have kd : KeepD H (upd H p (.dK m')) := fun a o ea n => by
    have : a ≠ p := fun z => by subst z; rw [e] at ea; cases ea; exact n m rfl
    rw [upd_ne this]; exact ea
  refine ⟨s.len, fun i => (s.sl i).kd kd, s.dj, s.nz, fun i a z => ?_, fun a z => ?_, s.gd.upd fun xs h => ?_⟩
  · obtain ⟨vs, ha⟩ := s.mu i a z
    exact ⟨vs, kd _ _ ha fun m e => by cases e⟩
  · obtain ⟨o, ha⟩ := s.zt a z
    by_cases hp : a = p
    · subst hp; exact ⟨_, upd_same⟩
    · exact ⟨o, by rw [upd_ne hp]; exact ha⟩
  · rcases h with h | h | ⟨ob, h | h⟩ <;> cases h
end
section
variable {X : Cx} {B : Bk} {C : Calls} {G : Nat → D} {k : Nat} {pos p1 : Pos} {ea eb ec ed : Ex} {a b c d : Expr}
/-! ### chains of three -/
def tChn3 (r r' r2 : R2) (ta tb tc td : TE) : TE := fun σ H Q => ta σ H fun x H1 => tb σ H1 fun y H2 => r x y H2 fun z H3 => ∃ k, z = .bl k ∧
  (if k = true then tc σ H3 fun w H4 => r' y w H4 fun z H5 => ∃ k, z = .bl k ∧ (if k = true then td σ H5 fun u H6 => r2 w u H6 Q else Q (.bl false) H5) else Q (.bl false) H3)
theorem pe_chn3 {op op' op2 : CmpOp} {r r' r2 : R2} {ta tb tc td : TE} (ho : OpR X (compareOp op) r) (ho' : OpR X (compareOp op') r') (ho2 : OpR X (compareOp op2) r2) (ha : PE X a ta) (hb : PE X b tb) (hc : PE X c tc) (hd : PE X d td)
    (hm : lastMarks [op, op', op2] [b, c, d] = false) : PE X (.Compare a [op, op', op2] [b, c, d] pos) (tChn3 r r' r2 ta tb tc td) := by
  refine ⟨fun pins s σ H Q I h => Compare_chain (thn (ha.run pins s σ H _ I h) fun v s1 ⟨x, H1, I1, r1, q1⟩ => chain_link (thn (hb.run pins s1 σ H1 _ I1 q1) fun u s2 ⟨y, H2, I2, rb, q2⟩ =>
    thn (ho pins s2 σ H2 x y v u _ I2 r1 rb q2) fun e s3 ⟨z, H3, I3, r3, j, ej, q3⟩ => ?_)) hm⟩
  subst ej
  cases r3
  refine wpAny_truthy_bool ?_
  cases j with
  | false => exact ite_ff ⟨.bl false, H3, I3, rfl, q3⟩
  | true =>
    refine ite_tt (chain_link (thn (hc.run pins s3 σ H3 _ I3 q3) fun w s4 ⟨y4, H4, I4, r4, q4⟩ => thn (ho' pins s4 σ H4 y y4 u w _ I4 rb r4 q4) fun e s5 ⟨z, H5, I5, r5, j, ej, q5⟩ => ?_))
    subst ej
    cases r5
    refine wpAny_truthy_bool ?_
    cases j with
    | false => exact ite_ff ⟨.bl false, H5, I5, rfl, q5⟩
    | true => exact ite_tt (chain_last (thn (hd.run pins s5 σ H5 _ I5 q5) fun w' s6 ⟨z', H6, I6, r6, q6⟩ => ho2 pins s6 σ H6 y4 z' w w' Q I6 r4 r6 q6))
theorem pt_chn3 {op op' op2 : CmpOp} {r r' r2 : R2} {ta tb tc td : TE} (ho : OpR X (compareOp op) r) (ho' : OpR X (compareOp op') r') (ho2 : OpR X (compareOp op2) r2) (ha : PE X a ta) (hb : PE X b tb) (hc : PE X c tc) (hd : PE X d td)
    (hm : lastMarks [op, op', op2] [b, c, d] = false) : PT X (.Compare a [op, op', op2] [b, c, d] pos) (tTest (tChn3 r r' r2 ta tb tc td)) := by
  refine ⟨fun pins s σ H Q I h => isTrue_chain (thn (ha.run pins s σ H _ I h) fun v s1 ⟨x, H1, I1, r1, q1⟩ => test_link (thn (hb.run pins s1 σ H1 _ I1 q1) fun u s2 ⟨y, H2, I2, rb, q2⟩ =>
    thn (ho pins s2 σ H2 x y v u _ I2 r1 rb q2) fun e s3 ⟨z, H3, I3, r3, j, ej, q3⟩ => ?_)) hm⟩
  subst ej
  cases r3
  refine wpAny_truthy_bool ?_
  cases j with
  | false =>
    obtain ⟨j, ej, q⟩ := q3
    cases ej
    exact ite_ff ⟨H3, I3, q⟩
  | true =>
    refine ite_tt (test_link (thn (hc.run pins s3 σ H3 _ I3 q3) fun w s4 ⟨y4, H4, I4, r4, q4⟩ => thn (ho' pins s4 σ H4 y y4 u w _ I4 rb r4 q4) fun e s5 ⟨z, H5, I5, r5, j, ej, q5⟩ => ?_))
    subst ej
    cases r5
    refine wpAny_truthy_bool ?_
    cases j with
    | false =>
      obtain ⟨j, ej, q⟩ := q5
      cases ej
      exact ite_ff ⟨H5, I5, q⟩
    | true =>
      refine ite_tt (test_last (thn (hd.run pins s5 σ H5 _ I5 q5) fun w' s6 ⟨z', H6, I6, r6, q6⟩ => thn (ho2 pins s6 σ H6 y4 z' w w' _ I6 r4 r6 q6) fun e s7 ⟨z, H7, I7, r7, j, ej, q7⟩ => ?_))
      subst ej
      cases r7
      exact wpAny_truthy_bool ⟨H7, I7, q7⟩
theorem chn3_tO {o o' o2 : COp} (hr : cRight o eb = true) (hr' : cRight o' ec = true) (hr2 : cRight o2 ed = true) {σ : L2.St} {H : Hp} {Q : VK} {ρ ρ' : Env} {Z : AS} {F : FS} {dd : D} (s : SR X.K B σ ρ H Z F) (e : evE C G (.chn3 o o' o2 ea eb ec ed) ρ = some (dd, ρ'))
    (q : ∀ z H' Z' F', dd = .bool z → SR X.K B σ ρ' H' Z' F' → Ps H Z F H' Z' F' → Q (.bl z) H') : tChn3 (rC X.K o) (rC X.K o') (rC X.K o2) (spO X.K B (opX C G ea)) (spO X.K B (opX C G eb)) (spO X.K B (opX C G ec)) (spO X.K B (opX C G ed)) σ H Q := by
  simp only [evE] at e
  obtain ⟨⟨p, ρ1⟩, e1, e⟩ := Option.bind_eq_some_iff.mp e
  obtain ⟨⟨p', ρ2⟩, e2, e⟩ := Option.bind_eq_some_iff.mp e
  obtain ⟨⟨k1, x⟩, e3, e⟩ := Option.bind_eq_some_iff.mp e
  obtain ⟨⟨k2, y⟩, e4, e⟩ := Option.bind_eq_some_iff.mp e
  obtain ⟨z, e5, e⟩ := Option.bind_eq_some_iff.mp e
  dsimp only at e2 e3 e4 e5 e
  show spO X.K B (opX C G ea) σ H _
  refine ⟨ρ, Z, F, p, ρ1, s, e1, fun v H1 Z1 F1 s1 q1 o1 => ⟨ρ1, Z1, F1, p', ρ2, s1, e2, fun v' H' Z' F' s' q2 o2' => ?_⟩⟩
  have ps := q1.trans q2
  obtain ⟨T1, w1⟩ := (o1.ps s1 q2).view s' e3
  obtain ⟨T2, w2⟩ := o2'.view s' e4
  refine cmp_fin e5 s' w1 w2 (cmp_two hr e2 e4) ?_
  cases z with
  | false =>
    simp only [if_false, Bool.false_eq_true] at e
    cases e
    exact ⟨false, rfl, by rw [if_neg Bool.false_ne_true]; exact q false H' Z' F' rfl s' ps⟩
  | true =>
    simp only [if_true] at e
    obtain ⟨⟨p3, ρ3⟩, e6, e⟩ := Option.bind_eq_some_iff.mp e
    obtain ⟨⟨k3, y3⟩, e7, e⟩ := Option.bind_eq_some_iff.mp e
    obtain ⟨⟨k4, w⟩, e8, e⟩ := Option.bind_eq_some_iff.mp e
    obtain ⟨z, e9, e⟩ := Option.bind_eq_some_iff.mp e
    dsimp only at e6 e7 e8 e9 e
    refine ⟨true, rfl, ?_⟩
    rw [if_pos rfl]
    refine ⟨ρ2, Z', F', p3, _, s', e6, fun v3 H3 Z3 F3 s3 q3 o3 => ?_⟩
    obtain ⟨T3, w3⟩ := (o2'.ps s' q3).view s3 e7
    obtain ⟨T4, w4⟩ := o3.view s3 e8
    refine cmp_fin e9 s3 w3 w4 (cmp_two hr' e6 e8) ?_
    cases z with
    | false =>
      simp only [if_false, Bool.false_eq_true] at e
      cases e
      exact ⟨false, rfl, by rw [if_neg Bool.false_ne_true]; exact q false H3 Z3 F3 rfl s3 (ps.trans q3)⟩
    | true =>
      simp only [if_true] at e
      obtain ⟨⟨p5, ρ5⟩, f6, e⟩ := Option.bind_eq_some_iff.mp e
      obtain ⟨⟨k5, y5⟩, f7, e⟩ := Option.bind_eq_some_iff.mp e
      obtain ⟨⟨k6, w6⟩, f8, e⟩ := Option.bind_eq_some_iff.mp e
      obtain ⟨z, f9, e⟩ := Option.bind_eq_some_iff.mp e
      dsimp only at f6 f7 f8 f9 e
      cases e
      refine ⟨true, rfl, ?_⟩
      rw [if_pos rfl]
      refine ⟨ρ3, Z3, F3, p5, _, s3, f6, fun v5 H5 Z5 F5 s5 q5 o5 => ?_⟩
      obtain ⟨T5, w5⟩ := (o3.ps s3 q5).view s5 f7
      obtain ⟨T6, w7⟩ := o5.view s5 f8
      exact cmp_fin f9 s5 w5 w7 (cmp_two hr2 f6 f8) (q z H5 Z5 F5 rfl s5 ((ps.trans q3).trans q5))
theorem s_chn3 {o o' o2 : COp} (hu : X.A.units + 65 < cLine) (ha : PE X a (spO X.K B (opX C G ea))) (hb : PE X b (spO X.K B (opX C G eb))) (hc : PE X c (spO X.K B (opX C G ec))) (hd : PE X d (spO X.K B (opX C G ed))) (hr : cRight o eb = true) (hr' : cRight o' ec = true) (hr2 : cRight o2 ed = true)
    (hm : lastMarks [copT o, copT o', copT o2] [b, c, d] = false) : PE X (.Compare a [copT o, copT o', copT o2] [b, c, d] pos) (spE X.K B C G (.chn3 o o' o2 ea eb ec ed) k) :=
  (pe_chn3 (opr_cmp hu o) (opr_cmp hu o') (opr_cmp hu o2) ha hb hc hd hm).imp fun σ H Q ⟨ρ, Z, F, d, ρ', s, e, q⟩ => chn3_tO hr hr' hr2 s e fun z H' Z' F' ed s' ps => by
    subst ed
    exact kn_bl (q.pre ps) s'
theorem t_chn3 {o o' o2 : COp} (hu : X.A.units + 65 < cLine) (ha : PE X a (spO X.K B (opX C G ea))) (hb : PE X b (spO X.K B (opX C G eb))) (hc : PE X c (spO X.K B (opX C G ec))) (hd : PE X d (spO X.K B (opX C G ed))) (hr : cRight o eb = true) (hr' : cRight o' ec = true) (hr2 : cRight o2 ed = true)
    (hm : lastMarks [copT o, copT o', copT o2] [b, c, d] = false) : PT X (.Compare a [copT o, copT o', copT o2] [b, c, d] pos) (spT X.K B (evE C G (.chn3 o o' o2 ea eb ec ed))) :=
  (pt_chn3 (opr_cmp hu o) (opr_cmp hu o') (opr_cmp hu o2) ha hb hc hd hm).imp fun σ H Q ⟨ρ, Z, F, d, ρ', s, e, q⟩ => chn3_tO hr hr' hr2 s e fun z H' Z' F' ed s' ps => by
    cases ed
    exact ⟨_, rfl, q H' Z' F' s' ps⟩
/-! ### tables of the module -/
def TabIn (K : PySem.W.Frag) (w : World) (mg : Str → Option Value) (x : Str) (g : Nat) : Prop := ∃ d es n, mg x = some (.ref d) ∧ KDict K w d es n ∧ ∀ z, (match (tabs g).lookup z with
  | some dd => ∃ u v, PySem.W.nsIn K d z = some (some u) ∧ RelV v u ∧ ∀ H Z, Fz K H Z dd v
  | none => PySem.W.nsIn K d z = some none)
abbrev TabAt (X : Cx) (x : Str) (g : Nat) : Prop := TabIn X.K X.w X.mg x g
theorem key_ow {K : PySem.W.Frag} {H : Hp} {Z : AS} {d : D} {k : Nat} {v : V} {T : AS} {z : Str} (o : Ow K H Z d k v T) (e : keyD d = some z) : v = .str z := by
  cases d <;> cases e
  exact ow_str o
theorem p_tab {x : Str} {g : Nat} (hg : Gl X x) (hd : (x == ("__debug__" : Str)) = false) {dd : Addr} (hm : X.mg x = some (.ref dd)) : PE X (.Name x p1) (fun _ H Q => Q (.ref dd) H) :=
  ⟨fun pins s σ H Q I q => ld_glob I hg hm ⟨.ref dd, H, I, rfl, q⟩ hd⟩
theorem s_tget {x : Str} {g : Nat} (hg : Gl X x) (hd : (x == ("__debug__" : Str)) = false) (ht : TabAt X x g) (ha : PE X a (spE X.K B C G ea 0)) (hs : PlainIx a) : PE X (.Subscript (.Name x p1) a pos) (spE X.K B C G (.tget g ea) 0) := by
  obtain ⟨dd, es, n, hm, KD, look⟩ := ht
  refine (pe_ix ix_kdict (p_tab (g := g) hg hd hm) ha hs).imp fun σ H Q ⟨ρ, Z, F, d, ρ', s, e, q⟩ => ?_
  simp only [evE] at e
  obtain ⟨⟨p, ρ1⟩, e1, e⟩ := Option.bind_eq_some_iff.mp e
  obtain ⟨z, e2, e⟩ := Option.bind_eq_some_iff.mp e
  obtain ⟨d2, e3, e⟩ := Option.bind_eq_some_iff.mp e
  cases e
  refine ⟨ρ, Z, F, p, _, s, e1, fun v H1 Z1 F1 T1 s1 r1 o1 => ?_⟩
  have := key_ow o1 e2
  subst this
  have l := look z
  rw [e3] at l
  obtain ⟨u, w, l1, l2, l3⟩ := l
  exact ⟨dd, z, w, rfl, rfl, ⟨es, n, u, KD.at_, KD.lit, l1, l2⟩, kn_fz (q.pre r1.ps) s1 (l3 _ _)⟩
theorem tmem_op {g : Nat} {dd : Addr} {es : Array DictEntry} {n : Nat} (KD : KDict X.K X.w dd es n) (look : ∀ z, (match (tabs g).lookup z with
  | some dv => ∃ u v, PySem.W.nsIn X.K dd z = some (some u) ∧ RelV v u ∧ ∀ H Z, Fz X.K H Z dv v
  | none => PySem.W.nsIn X.K dd z = some none)) {σ : L2.St} {H : Hp} {Q : VK} {ρ ρ' : Env} {Z : AS} {F : FS} {d : D} (s : SR X.K B σ ρ H Z F) (e : evE C G (.tmem g ea) ρ = some (d, ρ'))
    (q : ∀ z H' Z' F', d = .bool z → SR X.K B σ ρ' H' Z' F' → Ps H Z F H' Z' F' → Q (.bl z) H') : tOp (fun x y H Q => ∃ (z : Str) (r : Option Value), x = .str z ∧ y = .ref dd ∧ PySem.W.nsIn X.K dd z = some r ∧ Q (.bl r.isSome) H) (spE X.K B C G ea 0) (fun _ H Q => Q (.ref dd) H) σ H Q := by
  simp only [evE] at e
  obtain ⟨⟨p, ρ1⟩, e1, e⟩ := Option.bind_eq_some_iff.mp e
  obtain ⟨z, e2, e⟩ := Option.bind_eq_some_iff.mp e
  cases e
  refine ⟨ρ, Z, F, p, _, s, e1, fun v H1 Z1 F1 T1 s1 r1 o1 => ?_⟩
  have := key_ow o1 e2
  subst this
  have l := look z
  cases h : (tabs g).lookup z with
  | none =>
    rw [h] at l q
    exact ⟨z, none, rfl, rfl, l, q _ H1 Z1 F1 rfl s1 r1.ps⟩
  | some dv =>
    rw [h] at l q
    obtain ⟨u, w, l1, l2, l3⟩ := l
    exact ⟨z, some u, rfl, rfl, l1, q _ H1 Z1 F1 rfl s1 r1.ps⟩
theorem s_tmem {x : Str} {g : Nat} (hg : Gl X x) (hd : (x == ("__debug__" : Str)) = false) (ht : TabAt X x g) (ha : PE X a (spE X.K B C G ea 0)) : PE X (.Compare a [.In] [.Name x p1] pos) (spE X.K B C G (.tmem g ea) k) := by
  obtain ⟨dd, es, n, hm, KD, look⟩ := ht
  exact (pe_cmpR (op_in_kd KD) ha (p_tab (g := g) hg hd hm) (by with_unfolding_all rfl)).imp fun σ H Q ⟨ρ, Z, F, d, ρ', s, e, q⟩ => tmem_op KD look s e fun z H' Z' F' ed s' ps => by
    subst ed
    exact kn_bl (q.pre ps) s'
theorem t_tmem {x : Str} {g : Nat} (hg : Gl X x) (hd : (x == ("__debug__" : Str)) = false) (ht : TabAt X x g) (ha : PE X a (spE X.K B C G ea 0)) : PT X (.Compare a [.In] [.Name x p1] pos) (spT X.K B (evE C G (.tmem g ea))) := by
  obtain ⟨dd, es, n, hm, KD, look⟩ := ht
  exact (pt_cmpR (op_in_kd KD) ha (p_tab (g := g) hg hd hm) (by with_unfolding_all rfl)).imp fun σ H Q ⟨ρ, Z, F, d, ρ', s, e, q⟩ => tmem_op KD look s e fun z H' Z' F' ed s' ps => by
    cases ed
    exact ⟨_, rfl, q H' Z' F' s' ps⟩
/-! ### written tables -/
def trsOf (K : PySem.W.Frag) (B : Bk) (C : Calls) (G : Nat → D) : List Str → Exs → List (TE × TE)
  | k :: ks, .cons e es => ((fun _ H Q => Q (.str k) H), spE K B C G e 0) :: trsOf K B C G ks es
  | _, _ => []
theorem trs_run {K : PySem.W.Frag} {σ : L2.St} : ∀ {ks : List Str} {es : Exs} {ρ ρ' : Env} {ds : List D} {H : Hp} {Z : AS} {F : FS} {Q : List (V × V) → Hp → Prop}, SR K B σ ρ H Z F → evL C G es ρ = some (ds, ρ') → ds.length = ks.length →
    (∀ vs H' Z' F', SR K B σ ρ' H' Z' F' → Ps H Z F H' Z' F' → FzL K H' Z' ds vs → Q ((ks.map V.str).zip vs) H') → tPairs (trsOf K B C G ks es) σ H Q
  | [], .nil, ρ, ρ', ds, H, Z, F, Q, s, e, hl, q => by
    simp only [evL] at e
    cases e
    exact q [] H Z F s Ps.refl (by unfold FzL; rfl)
  | k :: ks, .nil, ρ, ρ', ds, H, Z, F, Q, s, e, hl, q => by
    simp only [evL] at e
    cases e
    simp at hl
  | [], .cons x es, ρ, ρ', ds, H, Z, F, Q, s, e, hl, q => by
    simp only [evL] at e
    obtain ⟨⟨p, ρ1⟩, e1, e⟩ := Option.bind_eq_some_iff.mp e
    obtain ⟨⟨ds2, ρ2⟩, e2, e⟩ := Option.bind_eq_some_iff.mp e
    cases e
    simp at hl
  | k :: ks, .cons x es, ρ, ρ', ds, H, Z, F, Q, s, e, hl, q => by
    simp only [evL] at e
    obtain ⟨⟨p, ρ1⟩, e1, e⟩ := Option.bind_eq_some_iff.mp e
    obtain ⟨⟨ds2, ρ2⟩, e2, e⟩ := Option.bind_eq_some_iff.mp e
    cases e
    simp at hl
    refine ⟨ρ, Z, F, p, ρ1, s, e1, fun v H1 Z1 F1 T1 s1 r1 o1 => ?_⟩
    have f1 := (ow_zero.1 o1).1
    refine trs_run s1 e2 hl fun vs H2 Z2 F2 s2 p2 f2 => ?_
    refine q (v :: vs) H2 Z2 F2 s2 (r1.ps.trans p2) ?_
    unfold FzL
    exact ⟨v, vs, rfl, p2.fz s1 f1, f2⟩
theorem zip_kv {κ : Type} : ∀ (ks : List Str) (vs : List V), ks.length = vs.length → (ks.map V.str).zip vs = ((ks.map (Sum.inr : Str → Key)).zip vs).map (fun kv => (kV kv.1, kv.2))
  | [], _, _ => rfl
  | k :: ks, [], h => by simp at h
  | k :: ks, v :: vs, h => by
    simp only [List.map_cons, List.zip_cons_cons]
    rw [zip_kv (κ := κ) ks vs (by simpa using h)]
    rfl
theorem merge_nd : ∀ (more acc : List (Key × V)), ((acc ++ more).map (·.1)).Nodup → mergeK acc more = acc ++ more
  | [], acc, _ => by simp [mergeK]
  | kv :: more, acc, h => by
    have h1 : valV acc kv.1 = none := by
      cases e : valV acc kv.1 with
      | none => rfl
      | some v =>
        have hm := valV_in e
        rw [List.map_append, List.nodup_append] at h
        exact absurd rfl (h.2.2 _ hm _ (by simp))
    unfold mergeK
    rw [List.foldl_cons, putK_new _ h1]
    have := merge_nd more (acc ++ [kv]) (by simpa using h)
    unfold mergeK at this
    simpa using this
theorem zip_fst {α β : Type} : ∀ (l : List α) (m : List β), l.length = m.length → (l.zip m).map Prod.fst = l
  | [], _, _ => by simp
  | a :: l, [], h => by simp at h
  | a :: l, b :: m, h => by simp [zip_fst l m (by simpa using h)]
theorem look_zip {K : PySem.W.Frag} {H : Hp} {Z : AS} : ∀ {ks : List Str} {ds : List D} {vs : List V} {z : Str}, FzL K H Z ds vs → ds.length = ks.length →
    (match (ks.zip ds).lookup z with
      | some d => ∃ v, valV ((ks.map (Sum.inr : Str → Key)).zip vs) (Sum.inr z) = some v ∧ Fz K H Z d v
      | none => valV ((ks.map (Sum.inr : Str → Key)).zip vs) (Sum.inr z) = none)
  | [], _, _, _, _, _ => by simp [valV_nil]
  | k :: ks, [], _, _, _, h => by simp at h
  | k :: ks, d :: ds, vs, z, f, h => by
    unfold FzL at f
    obtain ⟨v, ws, rfl, f1, f2⟩ := f
    simp only [List.zip_cons_cons, List.map_cons, List.lookup_cons]
    by_cases e : z = k
    · subst e
      simp only [beq_self_eq_true]
      exact ⟨v, valV_pos rfl, f1⟩
    · have e2 : (z == k) = false := by simpa using e
      have e3 : ¬ (Sum.inr k : Key) = Sum.inr z := fun h => e (Sum.inr.inj h).symm
      rw [e2, valV_neg e3]
      exact look_zip (z := z) f2 (by simpa using h)
end
section
variable {X : Cx} {B : Bk} {C : Calls} {G : Nat → D} {k : Nat} {pos p1 : Pos} {ea ex : Ex} {a b : Expr}
theorem disp_run {K : PySem.W.Frag} {σ : L2.St} {ks : List Str} {es : Exs} {ρ ρ' : Env} {ds : List D} {H : Hp} {Z : AS} {F : FS} {Q : VK} (nd : ks.Nodup) (h15 : ks.length ≤ 15) (s : SR K B σ ρ H Z F) (e : evL C G es ρ = some (ds, ρ')) (hl : ds.length = ks.length)
    (q : ∀ p vs H' Z' F', SR K B σ ρ' H' Z' F' → Ps H Z F H' Z' F' → H' p = some (.dK ((ks.map (Sum.inr : Str → Key)).zip vs)) → FzL K H' Z' ds vs → Q (.ref p) H') : tDisp (trsOf K B C G ks es) σ H Q := by
  intro p hp
  have kp := keep_upd (o := .dK []) hp
  have s0 : SR K B σ ρ (upd H p (.dK [])) Z F := s.more kp (fun _ z => z) s.nz (fun a z => let ⟨o, e⟩ := s.zt a z; ⟨o, kp _ _ e⟩) (s.gd.upd fun xs h => by rcases h with h | h | ⟨ob, h | h⟩ <;> cases h)
  have p0 : Ps H Z F (upd H p (.dK [])) Z F := Ps.new hp
  refine trs_run s0 e hl fun vs H2 Z2 F2 s2 p2 f2 => ?_
  have h2 : H2 p = some (.dK []) := p2.keep p _ upd_same fun i z => by
    obtain ⟨vs, ha⟩ := s0.mu i p z
    rw [upd_same] at ha
    cases ha
  have hvl : ks.length = vs.length := by rw [← hl]; exact f2.length
  refine ⟨h2, (ks.map (Sum.inr : Str → Key)).zip vs, zip_kv (κ := Nat) ks vs hvl, by simp; omega, ?_⟩
  have nm : mergeK [] ((ks.map (Sum.inr : Str → Key)).zip vs) = (ks.map (Sum.inr : Str → Key)).zip vs := by
    have := merge_nd ((ks.map (Sum.inr : Str → Key)).zip vs) [] (by
      rw [List.nil_append, zip_fst _ _ (by simpa using hvl)]
      exact List.pairwise_map.mpr (nd.imp fun h e => h (Sum.inr.inj e)))
    simpa using this
  rw [nm]
  have kd : KeepD H2 (upd H2 p (.dK ((ks.map (Sum.inr : Str → Key)).zip vs))) := fun a o ea n => by
    have : a ≠ p := fun z => by subst z; rw [h2] at ea; cases ea; exact n _ rfl
    rw [upd_ne this]; exact ea
  have pe := p0.trans p2
  refine q p vs _ Z2 F2 (s2.dk h2) ?_ upd_same (f2.kd kd)
  refine ⟨fun a o ea n => ?_, fun a o ea => ?_, pe.zz, pe.zn, pe.fn⟩
  · have : a ≠ p := fun z => by subst z; rw [hp] at ea; cases ea
    rw [upd_ne this]
    exact pe.keep a o ea n
  · by_cases hap : a = p
    · subst hap; exact ⟨_, upd_same⟩
    · obtain ⟨o', h'⟩ := pe.dom a o ea
      exact ⟨o', by rw [upd_ne hap]; exact h'⟩
theorem dk_keep {K : PySem.W.Frag} {σ : L2.St} {ρ : Env} {H H1 : Hp} {Z Z1 : AS} {F F1 : FS} {p : Addr} {m : List (Key × V)} (s : SR K B σ ρ H Z F) (ps : Ps H Z F H1 Z1 F1) (e : H p = some (.dK m)) : H1 p = some (.dK m) :=
  ps.keep p _ e fun i z => by
    obtain ⟨vs, ha⟩ := s.mu i p z
    rw [e] at ha
    cases ha
theorem s_dsp {ks : List Str} {es : Exs} {keys : List (Option Expr)} {values : List Expr} (hu : X.A.units + 65 < cLine) (hp : PPs X p1 keys values (trsOf X.K B C G ks es)) (hall : keys.all (·.isSome) = true) (hl : keys.length = values.length) (h0 : keys ≠ []) (h15 : keys.length ≤ 15)
    (hk : keys.length = ks.length) (nd : ks.Nodup) (ha : PE X a (spE X.K B C G ea 0)) (hs : NoSl a) : PE X (.Subscript (.Dict keys values p1) a pos) (spE X.K B C G (.dsp ks es ea) 0) :=
  (pe_dget (by omega) (pe_disp hp hall hl h0 h15) ha hs).imp fun σ H Q ⟨ρ, Z, F, d, ρ', s, e, q⟩ => by
    simp only [evE] at e
    obtain ⟨⟨ds, ρ1⟩, e1, e⟩ := Option.bind_eq_some_iff.mp e
    dsimp only at e
    split at e
    case isFalse => cases e
    rename_i hlen
    obtain ⟨⟨x, ρ2⟩, e2, e⟩ := Option.bind_eq_some_iff.mp e
    obtain ⟨z, e3, e⟩ := Option.bind_eq_some_iff.mp e
    obtain ⟨d2, e4, e⟩ := Option.bind_eq_some_iff.mp e
    cases e
    refine disp_run nd (by omega) s e1 hlen fun p vs H1 Z1 F1 s1 p1 hd f => ?_
    refine ⟨ρ1, Z1, F1, x, _, s1, e2, fun v H2 Z2 F2 T2 s2 r2 o2 => ?_⟩
    have := key_ow o2 e3
    subst this
    have l := look_zip (z := z) f hlen
    rw [e4] at l
    obtain ⟨w, l1, l2⟩ := l
    refine ⟨p, w, rfl, ?_, kn_fz (q.pre (p1.trans r2.ps)) s2 (r2.ps.fz s1 l2)⟩
    have := DGet.k (k := Sum.inr z) (dk_keep s1 r2.ps hd)
    rwa [l1] at this
theorem s_dspd {ks : List Str} {es : Exs} {keys : List (Option Expr)} {values : List Expr} {ap : Pos} (hu : X.A.units + 65 < cLine) (hp : PPs X p1 keys values (trsOf X.K B C G ks es)) (hall : keys.all (·.isSome) = true) (hl : keys.length = values.length) (h0 : keys ≠ []) (h15 : keys.length ≤ 15)
    (hk : keys.length = ks.length) (nd : ks.Nodup) (ha : PE X a (spE X.K B C G ea 0)) (hx : PE X b (spE X.K B C G ex 0)) (m : M2 X (.Dict keys values p1) "get" ap a b pos) : PE X (.Call (.Attribute (.Dict keys values p1) "get" ap) [a, b] [] pos) (spE X.K B C G (.dspd ks es ea ex) 0) :=
  (pe_dget2 (by omega) (pe_disp hp hall hl h0 h15) ha hx m).imp fun σ H Q ⟨ρ, Z, F, d, ρ', s, e, q⟩ => by
    simp only [evE] at e
    obtain ⟨⟨ds, ρ1⟩, e1, e⟩ := Option.bind_eq_some_iff.mp e
    dsimp only at e
    split at e
    case isFalse => cases e
    rename_i hlen
    obtain ⟨⟨x, ρ2⟩, e2, e⟩ := Option.bind_eq_some_iff.mp e
    obtain ⟨z, e3, e⟩ := Option.bind_eq_some_iff.mp e
    obtain ⟨⟨y, ρ3⟩, e4, e⟩ := Option.bind_eq_some_iff.mp e
    cases e
    refine disp_run nd (by omega) s e1 hlen fun p vs H1 Z1 F1 s1 p1 hd f => ?_
    refine ⟨p, rfl, .inl ⟨_, .inl hd⟩, ρ1, Z1, F1, x, _, s1, e2, fun v H2 Z2 F2 T2 s2 r2 o2 => ?_⟩
    have := key_ow o2 e3
    subst this
    refine ⟨ρ2, Z2, F2, y, _, s2, e4, fun w H3 Z3 F3 T3 s3 r3 o3 => ?_⟩
    have p3 := r2.ps.trans r3.ps
    have l := look_zip (z := z) f hlen
    have g := DGet.k (k := Sum.inr z) (dk_keep s1 p3 hd)
    cases h : (ks.zip ds).lookup z with
    | none =>
      rw [h] at l q
      dsimp only at l
      rw [l] at g
      exact ⟨none, g, kn_fz (q.pre (p1.trans p3)) s3 (ow_zero.1 o3).1⟩
    | some dv =>
      rw [h] at l q
      obtain ⟨u, l1, l2⟩ := l
      rw [l1] at g
      exact ⟨some u, g, kn_fz (q.pre (p1.trans p3)) s3 (p3.fz s1 l2)⟩
end
end
end BW

/-! BwX4: how many unlike ones; the place from a start on. -/
namespace BW
noncomputable section
open PySem PySem.Spec PyProof.Rows L2
theorem dcnt_of {α : Type} [DecidableEq α] : ∀ (l L : List α), L.Nodup → (∀ x, x ∈ L ↔ x ∈ l) → L.length = dcnt l
  | [], L, _, h => by
    cases L with
    | nil => rfl
    | cons a L => exact absurd ((h a).mp (List.mem_cons_self ..)) (by simp)
  | x :: r, L, nd, h => by
    unfold dcnt
    by_cases hx : x ∈ r
    · rw [if_pos hx]
      refine dcnt_of r L nd fun y => ?_
      rw [h y, List.mem_cons]
      exact ⟨fun q => q.elim (fun e => e ▸ hx) id, .inr⟩
    · rw [if_neg hx]
      have hL : x ∈ L := (h x).mpr (List.mem_cons_self ..)
      have := dcnt_of r (L.erase x) (nd.erase x) fun y => by
        rw [nd.mem_erase_iff, h y, List.mem_cons]
        exact ⟨fun q => q.2.elim (fun e => absurd e q.1) id, fun q => ⟨fun e => hx (e ▸ q), .inr q⟩⟩
      rw [← this, List.length_erase_of_mem hL]
      have := List.length_pos_of_mem hL
      omega
theorem step_nd {σ : List Int} {k : Int} (h : σ.Nodup) : (step_dedup σ k).Nodup ∧ ∀ x, x ∈ step_dedup σ k ↔ x ∈ σ ∨ x = k := by
  unfold step_dedup
  split
  · rename_i e
    have hk : k ∈ σ := by simpa using e
    exact ⟨h, fun x => ⟨.inl, fun q => q.elim id fun e => e ▸ hk⟩⟩
  · rename_i e
    have hk : k ∉ σ := by simpa using e
    refine ⟨List.nodup_append.mpr ⟨h, by simp, ?_⟩, fun x => by simp⟩
    rintro a ha b hb rfl
    simp at hb
    subst hb
    exact hk ha
theorem fold_nd : ∀ (l σ : List Int), σ.Nodup → (l.foldl step_dedup σ).Nodup ∧ ∀ x, x ∈ l.foldl step_dedup σ ↔ x ∈ σ ∨ x ∈ l
  | [], σ, h => ⟨h, fun x => by simp⟩
  | k :: l, σ, h => by
    obtain ⟨h1, h2⟩ := step_nd (k := k) h
    obtain ⟨h3, h4⟩ := fold_nd l (step_dedup σ k) h1
    refine ⟨h3, fun x => ?_⟩
    rw [List.foldl_cons, h4, h2, List.mem_cons, or_assoc]
theorem range_getD : ∀ (ns : List Int), (List.range ns.length).map (fun i => ns.getD i 0) = ns := fun ns => by
  apply List.ext_getElem?
  intro i
  rw [List.getElem?_map]
  rcases Nat.lt_or_ge i ns.length with h | h
  · rw [List.getElem?_range h, List.getElem?_eq_getElem h]
    simp [h]
  · rw [List.getElem?_eq_none (by simpa using h), List.getElem?_eq_none h]
    rfl
theorem first_len (ns : List Int) : (firstMet (fun i => ns.getD i 0) ns.length).length = dcnt ns := by
  unfold firstMet
  rw [range_getD]
  obtain ⟨h1, h2⟩ := fold_nd ns [] List.nodup_nil
  exact dcnt_of ns _ h1 fun x => by rw [h2]; simp
section
variable {X : Cx} {B : Bk} {C : Calls} {G : Nat → D} {k : Nat} {pos : Pos} {ea eo : Ex} {a o : Expr}
theorem fzL_tints {K : PySem.W.Frag} {H : Hp} {Z : AS} : ∀ {l : List D} {vs : List V} {nss : List (List Int)}, FzL K H Z l vs → tintsOf l = some nss → ∃ ks : List (Addr × List Int), vs = ks.map (fun p => V.ref p.1) ∧ ks.map (·.2) = nss ∧ ∀ p ∈ ks, SqT K H p.1 (p.2.map V.int)
  | [], vs, nss, h, e => by
    unfold FzL at h
    cases e
    exact ⟨[], h, rfl, by simp⟩
  | d :: l, vs, nss, h, e => by
    unfold FzL at h
    obtain ⟨v, ws, rfl, h1, h2⟩ := h
    unfold tintsOf at e
    obtain ⟨x, e1, e⟩ := Option.bind_eq_some_iff.mp e
    obtain ⟨ms, e2, rfl⟩ := Option.map_eq_some_iff.mp e
    obtain ⟨ks, rfl, rfl, hk⟩ := fzL_tints h2 e2
    cases d with
    | tuple m =>
      unfold Fz at h1
      obtain ⟨a, us, rfl, s, f⟩ := h1
      have := fzL_ints f e1
      subst this
      exact ⟨(a, x) :: ks, rfl, rfl, fun p hp => by
        rcases List.mem_cons.mp hp with rfl | hp
        · exact s
        · exact hk p hp⟩
    | _ => cases e1
/-! ### the place from a start on -/
def rIndex3 (K : PySem.W.Frag) : V → List V → Hp → VK → Prop := fun x xs H Q => ∃ (a : Addr) (ns : List Int) (i : Int) (j : Nat), x = V.ref a ∧ xs = [.int i, .int (j : Nat)] ∧ SqL K H a (ns.map V.int) ∧ i ∈ ns.drop j ∧ Q (.int ((j + (ns.drop j).idxOf i : Nat) : Int)) H
theorem mt_index3 : MtR X "list.index" (rIndex3 X.K) := by
  intro pins s σ H x xs v us Q I rx rxs h
  obtain ⟨a, ns, i, j0, rfl, rfl, hs, him, q⟩ := h
  cases rx
  cases rxs with
  | cons ry rt =>
    rename_i uy ut
    cases rt with
    | cons rz rt =>
      cases rt
      obtain ⟨tz, rfl⟩ := rz
      have ry' := ry
      obtain ⟨its, rv, ⟨⟨cls, dd, data, sl⟩, n, ho, hc, hdn, hd⟩, hlen⟩ := I.list hs
      simp only at hc hd
      subst hc hd
      have hk := List.idxOf_lt_length_of_mem him
      have hkl : (ns.drop j0).length = ns.length - j0 := List.length_drop
      have hz : (ns.map V.int)[j0 + (ns.drop j0).idxOf i]? = some (V.int i) := by
        rw [List.getElem?_map, ← List.getElem?_drop, List.getElem?_eq_getElem hk, List.getElem_idxOf]
        rfl
      obtain ⟨u, hu, ru⟩ := rv.get hz
      obtain ⟨hjl, hje⟩ := List.getElem?_eq_some_iff.mp hu
      have hvl := rv.length
      have hj : j0 + (ns.drop j0).idxOf i < its.toArray.size := by simpa using hjl
      have hsl := sizeLine_eq
      have hsf : SeqAt.searchFrom (j0 : Int) its.toArray.size = j0 := SeqAt.searchFrom_nat _ _
      have fl : flatV (V.int i) = true := rfl
      have fns : (ns.map V.int).all flatV = true := by simp [List.all_eq_true, flatV]
      refine call_meets PySem.F.slot_list_index ⟨_, ho, rfl⟩ PySem.F.entry_list_index (PySem.F.args_list_index_3 _ _ _)
        (SeqAt.list_index3_found a its.toArray n dd sl uy (fun m => ((its[m]?).map (eqU (V.int i))).getD false) (j0 : Int) tz (j0 + (ns.drop j0).idxOf i) hj (by rw [hsf]; omega) (by omega) ?_ ?_) ⟨ho, fun m hm => ?_, ?_⟩
      · rw [hu]
        show eqU (V.int i) u = true
        rw [eqU_of ru rfl]
        simp [eqV]
      · intro m hm h1 h2
        rw [hsf] at h1
        have hml : m < its.length := by simpa using hm
        have hmy : m < ns.length := by rw [List.length_map] at hvl; omega
        have hy' : (ns.map V.int)[m]? = some (V.int ns[m]) := by rw [List.getElem?_map, List.getElem?_eq_getElem hmy]; rfl
        obtain ⟨u2, hu2, ru2⟩ := rv.get hy'
        rw [hu2]
        show eqU (V.int i) u2 = false
        rw [eqU_of ru2 rfl]
        have hne : ns[m] ≠ i := by
          intro e
          have hd : (ns.drop j0)[m - j0]? = some i := by
            rw [List.getElem?_drop, show j0 + (m - j0) = m by omega, List.getElem?_eq_getElem hmy, e]
          have := List.not_of_lt_findIdx (p := (· == i)) (xs := ns.drop j0) (i := m - j0) (by
            have : (ns.drop j0).idxOf i = (ns.drop j0).findIdx (· == i) := rfl
            omega)
          obtain ⟨hd1, hd2⟩ := List.getElem?_eq_some_iff.mp hd
          rw [hd2] at this
          simp at this
        simp [eqV, hne]
      · have hml : m < its.length := by simpa using hm
        have e1 : its[m]? = some its[m] := List.getElem?_eq_getElem hml
        rw [e1]
        exact mem_eqAt ry fl rv fns _ (by simp)
      · exact ⟨.int _, H, I.tok _, ⟨_, rfl⟩, q⟩
theorem s_ixs {b c : Expr} {es : Exs} {ap cp : Pos} (ho : PE X o (spO X.K B (opX C G eo))) (ha : PA X [b, c] (spL X.K B (evL C G es) 0))
    (hbase : ∀ y, attributeBase o y X.env (eval o X.env) = eval o X.env) (hline : (ap.endLine == cp.line) = true) (st : starEach [b, c] X.env = (false, eval b X.env) :: starEach [c] X.env) (st2 : starEach [c] X.env = (false, eval c X.env) :: starEach [] X.env) :
    PE X (.Call (.Attribute o "index" ap) [b, c] [] cp) (spE X.K B C G (.ixs eo es) k) :=
  (pe_bm F.plainAttrs_list F.slot_list_index F.type_list_index mt_index3 ho ha (hbase _) (by rw [st, st2]; rfl) hline st (by rw [st2]; rfl)).imp fun σ H Q ⟨ρ, Z, F, d, ρ', s, e, q⟩ => by
    simp only [evE] at e
    obtain ⟨⟨p, ρ1⟩, e1, e⟩ := Option.bind_eq_some_iff.mp e
    obtain ⟨⟨k1, y⟩, e2, e⟩ := Option.bind_eq_some_iff.mp e
    split at e
    case isFalse => cases e
    rename_i hrc
    obtain ⟨⟨ds, ρ2⟩, e3, e⟩ := Option.bind_eq_some_iff.mp e
    obtain ⟨⟨k2, x⟩, e4, e⟩ := Option.bind_eq_some_iff.mp e
    split at e
    case isFalse => cases e
    rename_i hk2
    obtain ⟨z, e5, e⟩ := Option.bind_eq_some_iff.mp e
    cases e
    refine ⟨ρ, Z, F, p, ρ1, s, e1, fun v H1 Z1 F1 s1 p1 ov => ?_⟩
    obtain ⟨T1, ow1⟩ := ov.view s1 e2
    refine ⟨ty_index ow1 hrc, ρ1, Z1, F1, ds, _, s1, e3, fun vs H2 Z2 F2 T2 s2 r2 o2 => ?_⟩
    obtain ⟨T3, ow2⟩ := (ov.ps s1 r2.ps).view s2 e4
    have f := (owL_zero.1 o2).1
    cases x with
    | list l =>
      obtain ⟨a, us, rfl, ha, fa⟩ := seq_of_ow ow2 hk2
      rcases ds with _ | ⟨y1, _ | ⟨y2, _ | ⟨y3, ds⟩⟩⟩
      · cases e5
      · cases y1 <;> cases e5
      · cases y1 with
        | int i =>
          cases y2 with
          | int j =>
            replace e5 : index3D l i j = some d := e5
            unfold index3D at e5
            split at e5
            case isFalse => cases e5
            rename_i hj
            obtain ⟨ns, en, e5⟩ := Option.bind_eq_some_iff.mp e5
            split at e5
            case isFalse => cases e5
            rename_i hm
            cases e5
            unfold FzL at f
            obtain ⟨w1, ws, rfl, f1, f2⟩ := f
            unfold FzL at f2
            obtain ⟨w2, ws, rfl, f3, f4⟩ := f2
            unfold FzL at f4
            subst f4
            have := fzL_ints fa en
            subst this
            have h1 : w1 = V.int i := f1
            have h2 : w2 = V.int j := f3
            subst h1 h2
            obtain ⟨j, rfl⟩ : ∃ m : Nat, j = m := ⟨j.toNat, by omega⟩
            simp only [Int.toNat_natCast] at hm ⊢
            exact ⟨a, ns, i, j, rfl, rfl, .inl (.inl ha), hm.1, kn_int (q.pre (p1.trans r2.ps)) s2⟩
          | _ => cases e5
        | _ => cases y2 <;> cases e5
      · cases y1 <;> cases y2 <;> cases e5
    | _ => cases e5
end
end
end BW

/-! BwX5: lists lent for the time of a call. -/
namespace BW
noncomputable section
open PySem PySem.Spec PyProof.Rows L2
theorem sameD_ok {a b : D} (h : sameD a b = true) : a = b := @of_decide_eq_true _ (Classical.propDecidable _) h
theorem backOk_at : ∀ {ρ ρ' : Env} (j : Nat), backOk ρ ρ' = true → j < ρ'.length → bk (slot ρ j) (slot ρ' j) = true
  | [], [], j, _, h => by cases h
  | [], _ :: _, _, h, _ => by cases h
  | _ :: _, [], _, h, _ => by cases h
  | r :: rs, q :: qs, 0, h, _ => by
    unfold backOk at h
    rw [Bool.and_eq_true] at h
    exact h.1
  | r :: rs, q :: qs, j + 1, h, hj => by
    unfold backOk at h
    rw [Bool.and_eq_true] at h
    exact backOk_at j h.2 (by simpa using hj)
section
variable {K : PySem.W.Frag} {H H' : Hp} {Z Z' Z2 : AS} {F F' : FS} {B : Bk} {σ : L2.St} {ρ ρ2 : Env}
mutual
theorem fz_any : ∀ {d : D} {v : V}, noL d = true → Fz K H Z d v → Fz K H Z2 d v
  | .none, _, _, f => f
  | .bool _, _, _, f => f
  | .int _, _, _, f => f
  | .str _, _, _, f => f
  | .tuple l, v, h, f => by
    unfold Fz at f ⊢
    obtain ⟨a, vs, e, q, g⟩ := f
    exact ⟨a, vs, e, q, fzL_any h g⟩
  | .list _, _, h, _ => by cases h
  | .dict _, _, h, _ => by cases h
theorem fzL_any : ∀ {l : List D} {vs : List V}, noLs l = true → FzL K H Z l vs → FzL K H Z2 l vs
  | [], _, _, f => by unfold FzL at f ⊢; exact f
  | d :: ds, vs, h, f => by
    unfold noLs at h
    rw [Bool.and_eq_true] at h
    unfold FzL at f ⊢
    obtain ⟨v, ws, e, f1, f2⟩ := f
    exact ⟨v, ws, e, fz_any h.1 f1, fzL_any h.2 f2⟩
end
theorem nol_flat {d : D} (h : flatD d = true) : noL d = true := by
  cases d <;> first | rfl | cases h
theorem ow_any2 {d : D} (h : noL d = true) {k : Nat} {v : V} {T : AS} (f : Ow K H Z d k v T) : Ow K H Z2 d k v T ∧ ∀ a, ¬ T a := by
  cases d with
  | none => unfold Ow at f ⊢; exact ⟨f, f.2⟩
  | bool b => unfold Ow at f ⊢; exact ⟨f, f.2⟩
  | int b => unfold Ow at f ⊢; exact ⟨f, f.2⟩
  | str b => unfold Ow at f ⊢; exact ⟨f, f.2⟩
  | tuple l =>
    unfold Ow at f ⊢
    obtain ⟨⟨a, vs, e, q, g⟩, t⟩ := f
    exact ⟨⟨⟨a, vs, e, q, fzL_any h g⟩, t⟩, t⟩
  | list _ => cases h
  | dict _ => cases h
theorem owL_any : ∀ {l : List D}, noLs l = true → ∀ {k : Nat} {vs : List V} {T : AS}, OwL K H Z l k vs T → OwL K H Z2 l k vs T
  | [], _, _, _, _, f => by unfold OwL at f ⊢; exact f
  | d :: ds, h, k, vs, T, f => by
    unfold noLs at h
    rw [Bool.and_eq_true] at h
    unfold OwL at f ⊢
    obtain ⟨v, ws, T1, T2, e, f1, f2, dj, t⟩ := f
    exact ⟨v, ws, T1, T2, e, (ow_any2 h.1 f1).1, owL_any h.2 f2, dj, t⟩
theorem ow_lst1 {l : List D} (h : noLs l = true) {v : V} {T : AS} (f : Ow K H Z (.list l) 1 v T) : Ow K H Z2 (.list l) 1 v T := by
  unfold Ow at f ⊢
  obtain ⟨a, vs, T', e, ha, na, q, t⟩ := f
  exact ⟨a, vs, T', e, ha, na, owL_any h q, t⟩
/-- what was lent is had again -/
theorem lend_back' {i k : Nat} {dd : D} (s : SR K B σ ρ H Z F) (e : slot ρ i = .own k dd) (s2 : SR K B σ ρ2 H' Z' F')
    (p : Ps H (fun a => Z a ∨ (F i a ∧ ¬ False)) (fun j => if j = i then fun _ => False else F j) H' Z' F') (hb : ∀ j, j ≠ i → j < ρ2.length → bk (slot ρ j) (slot ρ2 j) = true ∨ (slot ρ2 j = slot ρ j ∧ F' j = F j ∧ ∀ a, F j a → H' a = H a)) :
    SR K B σ (ρ2.set i (.own k dd)) H' (fun a => Z' a ∧ ¬ F i a) (fun j => if j = i then F i else F' j) ∧ Ps H Z F H' (fun a => Z' a ∧ ¬ F i a) (fun j => if j = i then F i else F' j) := by
  have hi : i < ρ.length := slot_lt (by rw [e]; intro z; cases z)
  have hl : ρ2.length = ρ.length := by rw [s2.len, s.len]
  have f1 : ∀ {j a}, (if j = i then fun _ => False else F j : AS) a → j ≠ i ∧ F j a := fun {j a} z => by
    by_cases ej : j = i
    · rw [if_pos ej] at z; exact z.elim
    · rw [if_neg ej] at z; exact ⟨ej, z⟩
  have nT : ∀ a, F i a → ∀ j, ¬ (if j = i then fun _ => False else F j : AS) a := fun a t j z => by
    obtain ⟨h1, h2⟩ := f1 z
    exact h1 (s.dj j i a h2 t)
  have nF : ∀ a, F i a → ∀ j, ¬ F' j a := fun a t j z => by
    rcases p.fn j a z with ⟨j', y⟩ | y
    · exact nT a t j' y
    · obtain ⟨vs, h⟩ := s.mu i a t
      rw [y] at h
      cases h
  have zz : ∀ a, Z a → Z' a ∧ ¬ F i a := fun a z => ⟨p.zz a (.inl z), fun t => s.nz i a t z⟩
  have kp : ∀ j a o, H a = some o → (Z a ∨ (F j a ∧ (j = i ∨ ∀ b, ¬ F j b)) ∨ ∀ xs, o ≠ .lst xs) → H' a = some o := fun j a o h c => p.keep a o h fun j' z => by
    obtain ⟨h1, h2⟩ := f1 z
    rcases c with c | ⟨c, c2⟩ | c
    · exact s.nz j' a h2 c
    · rcases c2 with c2 | c2
      · subst c2
        exact h1 (s.dj j' j a h2 c)
      · exact c2 a c
    · obtain ⟨vs, h'⟩ := s.mu j' a h2
      rw [h] at h'
      cases h'
      exact c vs rfl
  refine ⟨⟨by rw [List.length_set]; exact s2.len, fun j => ?_, fun j j' a h h' => ?_, fun j a h z => ?_, fun j a h => ?_, fun a z => s2.zt a z.1, s2.gd⟩, ⟨fun a o h n => p.keep a o h fun j z => n j (f1 z).2, p.dom, zz, fun a z => ?_, fun j a h => ?_⟩⟩
  · rw [slot_set]
    by_cases ej : i = j
    · subst ej
      simp only [if_true, if_pos (show i < ρ2.length by omega)]
      have q := s.sl i
      rw [e] at q
      obtain ⟨v, ev, o⟩ := q
      exact ⟨v, ev, o.mono zz fun a o' h c => kp i a o' h (by
        rcases c with c | c | c
        · exact .inl c
        · exact .inr (.inl ⟨c, .inl rfl⟩)
        · exact .inr (.inr c))⟩
    · rw [if_neg ej, if_neg (fun z => ej z.symm)]
      have q := s2.sl j
      by_cases hj : j < ρ2.length
      · rcases hb j (fun z => ej z.symm) hj with hk | ⟨same, ef, hh⟩
        rotate_left
        · rw [same, ef]
          exact (s.sl j).mono zz fun a o h c => by
            rcases c with c | c | c
            · exact kp j a o h (.inl c)
            · rw [hh a c]; exact h
            · exact kp j a o h (.inr (.inr c))
        cases hr : slot ρ2 j with
        | un => rw [hr] at q; exact q
        | val d =>
          rw [hr] at q hk
          obtain ⟨v, ev, f, t⟩ := q
          have fl : noL d = true → SlotR K (B j) H' (fun a => Z' a ∧ ¬ F i a) σ[j]? (F' j) (.val d) := fun h => ⟨v, ev, fz_any h f, t⟩
          cases hr1 : slot ρ j with
          | val d0 =>
            rw [hr1] at hk
            unfold bk at hk
            rw [Bool.or_eq_true] at hk
            rcases hk with hk | hk
            · have := sameD_ok hk
              subst this
              have q1 := s.sl j
              rw [hr1] at q1
              obtain ⟨v1, ev1, g, t1⟩ := q1
              exact ⟨v1, ev1, g.mono (fun a o h c => kp j a o h (by
                rcases c with c | c
                · exact .inl c
                · exact .inr (.inr c))) zz, t⟩
            · exact fl hk
          | _ => rw [hr1] at hk; exact fl hk
        | own k' d =>
          rw [hr] at q hk
          obtain ⟨v, ev, f⟩ := q
          cases d with
          | list l =>
            have hk2 : (decide (k' = 1) && noLs l) = true := by cases h : slot ρ j <;> rw [h] at hk <;> exact hk
            rw [Bool.and_eq_true, decide_eq_true_eq] at hk2
            obtain ⟨rfl, h2⟩ := hk2
            exact ⟨v, ev, ow_lst1 h2 f⟩
          | _ => cases h : slot ρ j <;> rw [h] at hk <;> cases hk
        | io k' d =>
          rw [hr] at q hk
          obtain ⟨eb, v, ev, f⟩ := q
          cases d with
          | list l =>
            have hk2 : (decide (k' = 1) && noLs l) = true := by cases h : slot ρ j <;> rw [h] at hk <;> exact hk
            rw [Bool.and_eq_true, decide_eq_true_eq] at hk2
            obtain ⟨rfl, h2⟩ := hk2
            exact ⟨eb, v, ev, ow_lst1 h2 f⟩
          | _ => cases h : slot ρ j <;> rw [h] at hk <;> cases hk
        | scr l => rw [hr] at q; exact q
        | exc l => rw [hr] at q; exact q
      · have hu : slot ρ2 j = .un := by
          unfold slot
          rw [List.getD_eq_getElem?_getD, List.getElem?_eq_none (by omega)]
          rfl
        rw [hu] at q ⊢
        exact q
  · by_cases ej : j = i
    · rw [if_pos ej] at h
      by_cases ej' : j' = i
      · rw [ej, ej']
      · rw [if_neg ej'] at h'
        exact (nF a h j' h').elim
    · rw [if_neg ej] at h
      by_cases ej' : j' = i
      · rw [if_pos ej'] at h'
        exact (nF a h' j h).elim
      · rw [if_neg ej'] at h'
        exact s2.dj j j' a h h'
  · by_cases ej : j = i
    · rw [if_pos ej] at h
      exact z.2 h
    · rw [if_neg ej] at h
      exact s2.nz j a h z.1
  · by_cases ej : j = i
    · rw [if_pos ej] at h
      obtain ⟨vs, hv⟩ := s.mu i a h
      exact ⟨vs, kp i a _ hv (.inr (.inl ⟨h, .inl rfl⟩))⟩
    · rw [if_neg ej] at h
      exact s2.mu j a h
  · rcases p.zn a z.1 with (y | y) | y | ⟨j, y⟩
    · exact .inl y
    · exact (z.2 y.1).elim
    · exact .inr (.inl y)
    · exact .inr (.inr ⟨j, (f1 y).2⟩)
  · by_cases ej : j = i
    · rw [if_pos ej] at h
      exact .inl ⟨i, h⟩
    · rw [if_neg ej] at h
      rcases p.fn j a h with ⟨j', y⟩ | y
      · exact .inl ⟨j', (f1 y).2⟩
      · exact .inr y
/-- what was lent is had again -/
theorem lend_back {i k : Nat} {dd : D} (s : SR K B σ ρ H Z F) (e : slot ρ i = .own k dd) (s2 : SR K B σ ρ2 H' Z' F')
    (p : Ps H (fun a => Z a ∨ (F i a ∧ ¬ False)) (fun j => if j = i then fun _ => False else F j) H' Z' F') (hb : backOk (ρ.set i (.val dd)) ρ2 = true) :
    SR K B σ (ρ2.set i (.own k dd)) H' (fun a => Z' a ∧ ¬ F i a) (fun j => if j = i then F i else F' j) ∧ Ps H Z F H' (fun a => Z' a ∧ ¬ F i a) (fun j => if j = i then F i else F' j) :=
  lend_back' s e s2 p fun j ne hj => .inl (by
    have hk := backOk_at j hb hj
    rwa [slot_set, if_neg (fun z => ne z.symm)] at hk)
/-- two at once -/
theorem lend_back2 {i j k k' : Nat} {dd dd' : D} (s : SR K B σ ρ H Z F) (e : slot ρ i = .own k dd) (e' : slot ρ j = .own k' dd') (hij : i ≠ j) (s2 : SR K B σ ρ2 H' Z' F')
    (p : Ps H (fun a => (Z a ∨ (F i a ∧ ¬ False)) ∨ ((if j = i then fun _ => False else F j : AS) a ∧ ¬ False)) (fun m => if m = j then fun _ => False else (if m = i then fun _ => False else F m)) H' Z' F') (hb : backOk ((ρ.set i (.val dd)).set j (.val dd')) ρ2 = true) :
    ∃ Z2 F2, SR K B σ ((ρ2.set j (.own k' dd')).set i (.own k dd)) H' Z2 F2 ∧ Ps H Z F H' Z2 F2 := by
  have e2 : slot (ρ.set i (.val dd)) j = .own k' dd' := by rw [slot_set, if_neg hij]; exact e'
  have hat := fun (m : Nat) (hm : m < ρ2.length) => backOk_at m hb hm
  obtain ⟨s4, p4⟩ := lend_back (s.freeze e).1 e2 s2 p hb
  have r := lend_back' s e s4 p4 (fun m ne hm => by
    by_cases em : m = j
    · subst em
      right
      refine ⟨?_, ?_, fun a ha => ?_⟩
      · have hl : m < ρ2.length := by simpa using hm
        rw [slot_set, if_pos rfl, if_pos hl, e']
      · funext a
        simp [ne]
      · obtain ⟨vs, h⟩ := s.mu m a ha
        rw [h]
        refine p.keep a _ h fun m' z => ?_
        by_cases h1 : m' = m
        · rw [if_pos h1] at z; exact z
        · rw [if_neg h1] at z
          by_cases h2 : m' = i
          · rw [if_pos h2] at z; exact z
          · rw [if_neg h2] at z
            exact h1 (s.dj m' m a z ha)
    · left
      have hm' : m < ρ2.length := by simpa using hm
      have := hat m hm'
      rw [slot_set, if_neg (fun z => em z.symm), slot_set, if_neg (fun z => ne z.symm)] at this
      rw [slot_set, if_neg (fun z => em z.symm)]
      exact this)
  exact ⟨_, _, r.1, r.2⟩
end
section
variable {X : Cx} {B : Bk} {C : Calls} {G : Nat → D} {k i : Nat} {ea : Ex} {a : Expr}
theorem lnd_split {ρ ρ' : Env} {d : D} (e : evE C G (.lnd i ea) ρ = some (d, ρ')) : evE C G ea ρ = some (d, ρ') ∧ flatD d = true ∨ ∃ k dd ρ2, slot ρ i = .own k dd ∧ evE C G ea (ρ.set i (.val dd)) = some (d, ρ2) ∧ flatD d = true ∧ backOk (ρ.set i (.val dd)) ρ2 = true ∧ ρ' = ρ2.set i (.own k dd) := by
  simp only [evE] at e
  split at e
  · rename_i k dd hs
    obtain ⟨⟨z, ρ2⟩, e1, e⟩ := Option.bind_eq_some_iff.mp e
    dsimp only at e
    split at e
    · rename_i h
      cases e
      rw [Bool.and_eq_true] at h
      exact .inr ⟨k, dd, ρ2, hs, e1, h.1, h.2, rfl⟩
    · cases e
  · obtain ⟨⟨z, ρ2⟩, e1, e⟩ := Option.bind_eq_some_iff.mp e
    split at e
    · rename_i h
      cases e
      exact .inl ⟨e1, h⟩
    · cases e
theorem ow_k {K : PySem.W.Frag} {H : Hp} {Z : AS} {d : D} (h : flatD d = true) {k k2 : Nat} {v : V} {T : AS} (f : Ow K H Z d k v T) : Ow K H Z d k2 v T := by
  cases d <;> first | (cases h; done) | (unfold Ow at f ⊢; exact f)
theorem s_lnd {k2 : Nat} (h : PE X a (spE X.K B C G ea k2)) : PE X a (spE X.K B C G (.lnd i ea) k) := h.imp fun σ H Q ⟨ρ, Z, F, d, ρ', s, e, q⟩ => by
  rcases lnd_split e with ⟨e, hf⟩ | ⟨k', dd, ρ2, hs, e1, hf, hb, rfl⟩
  · exact ⟨ρ, Z, F, d, ρ', s, e, fun v H' Z' F' T s2 r o => q v H' Z' F' T s2 r (ow_k hf o)⟩
  · refine ⟨ρ.set i (.val dd), _, _, d, ρ2, (s.freeze hs).1, e1, fun v H' Z' F' T s2 r o => ?_⟩
    obtain ⟨s3, p3⟩ := lend_back s hs s2 r.ps hb
    obtain ⟨o2, nt⟩ := ow_any2 (Z2 := fun a => Z' a ∧ ¬ F i a) (nol_flat hf) o
    exact q v H' _ _ T s3 ⟨p3, Tm.of nt, fun a z => (nt a z).elim⟩ (ow_k hf o2)
theorem t_lnd (h : PT X a (spT X.K B (evE C G ea))) : PT X a (spT X.K B (evE C G (.lnd i ea))) := h.imp fun σ H Q ⟨ρ, Z, F, b, ρ', s, e, q⟩ => by
  rcases lnd_split e with ⟨e, hf⟩ | ⟨k', dd, ρ2, hs, e1, hf, hb, rfl⟩
  · exact ⟨ρ, Z, F, b, ρ', s, e, q⟩
  · refine ⟨ρ.set i (.val dd), _, _, b, ρ2, (s.freeze hs).1, e1, fun H' Z' F' s2 r => ?_⟩
    obtain ⟨s3, p3⟩ := lend_back s hs s2 r hb
    exact q H' _ _ s3 p3
theorem lnd2_split {i j : Nat} {ρ ρ' : Env} {d : D} (e : evE C G (.lnd2 i j ea) ρ = some (d, ρ')) : ∃ k dd k' dd' ρ2, i ≠ j ∧ slot ρ i = .own k dd ∧ slot ρ j = .own k' dd' ∧ evE C G ea ((ρ.set i (.val dd)).set j (.val dd')) = some (d, ρ2) ∧ flatD d = true ∧ backOk ((ρ.set i (.val dd)).set j (.val dd')) ρ2 = true ∧ ρ' = (ρ2.set j (.own k' dd')).set i (.own k dd) := by
  simp only [evE] at e
  split at e
  · rename_i k dd hs
    split at e
    · rename_i k' dd' hs'
      split at e
      · cases e
      · rename_i hij
        obtain ⟨⟨z, ρ2⟩, e1, e⟩ := Option.bind_eq_some_iff.mp e
        dsimp only at e
        split at e
        · rename_i h
          cases e
          rw [Bool.and_eq_true] at h
          exact ⟨k, dd, k', dd', ρ2, hij, hs, hs', e1, h.1, h.2, rfl⟩
        · cases e
    · cases e
  · cases e
theorem s_lnd2 {i j k2 : Nat} (h : PE X a (spE X.K B C G ea k2)) : PE X a (spE X.K B C G (.lnd2 i j ea) k) := h.imp fun σ H Q ⟨ρ, Z, F, d, ρ', s, e, q⟩ => by
  obtain ⟨k', dd, k'', dd', ρ2, hij, hs, hs', e1, hf, hb, rfl⟩ := lnd2_split e
  have e2 : slot (ρ.set i (.val dd)) j = .own k'' dd' := by rw [slot_set, if_neg hij]; exact hs'
  refine ⟨(ρ.set i (.val dd)).set j (.val dd'), _, _, d, ρ2, ((s.freeze hs).1.freeze e2).1, e1, fun v H' Z' F' T s2 r o => ?_⟩
  obtain ⟨Z2, F2, s3, p3⟩ := lend_back2 s hs hs' hij s2 r.ps hb
  obtain ⟨o2, nt⟩ := ow_any2 (Z2 := Z2) (nol_flat hf) o
  exact q v H' _ _ T s3 ⟨p3, Tm.of nt, fun a z => (nt a z).elim⟩ (ow_k hf o2)
theorem t_lnd2 {i j : Nat} (h : PT X a (spT X.K B (evE C G ea))) : PT X a (spT X.K B (evE C G (.lnd2 i j ea))) := h.imp fun σ H Q ⟨ρ, Z, F, b, ρ', s, e, q⟩ => by
  obtain ⟨k', dd, k'', dd', ρ2, hij, hs, hs', e1, hf, hb, rfl⟩ := lnd2_split e
  have e2 : slot (ρ.set i (.val dd)) j = .own k'' dd' := by rw [slot_set, if_neg hij]; exact hs'
  refine ⟨(ρ.set i (.val dd)).set j (.val dd'), _, _, b, ρ2, ((s.freeze hs).1.freeze e2).1, e1, fun H' Z' F' s2 r => ?_⟩
  obtain ⟨Z2, F2, s3, p3⟩ := lend_back2 s hs hs' hij s2 r hb
  exact q H' _ _ s3 p3
end
section
variable {X : Cx} {B : Bk} {C : Calls} {G : Nat → D} {O : Nat → Nat} {kr : Nat} {pos : Pos} {ea eb : Ex}
/-- a, b = e, f: two names, the tuple made first -/
theorem s_parc {i j : Nat} {x y : Str} {a b : Expr} {px py pt pt2 : Pos} {kt k2 ki kj : Nat} (hc : X.calm = true) (hN : X.N.Nodup) (hi : X.N[i]? = some x) (hj : X.N[j]? = some y) (hx : Loc X.env.scope x) (hy : Loc X.env.scope y)
    (fx : X.fn x = true ∨ X.env.scope.names.lookup x = some .local) (fy : X.fn y = true ∨ X.env.scope.names.lookup y = some .local)
    (ha : PE X a (spE X.K B C G ea ki)) (hb : PE X b (spE X.K B C G eb kj)) (st : starEach [a, b] X.env = (false, eval a X.env) :: starEach [b] X.env) (st2 : starEach [b] X.env = (false, eval b X.env) :: starEach [] X.env)
    (hs : swapsWithSole [.Tuple [.Name x px, .Name y py] kt pt] (.Tuple [a, b] k2 pt2) pos.line X.env = pure false)
    (hw : swappedStores [.Tuple [.Name x px, .Name y py] kt pt] (.Tuple [a, b] k2 pt2) X.env = pure none) : PS X (.Assign [.Tuple [.Name x px, .Name y py] kt pt] (.Tuple [a, b] k2 pt2) pos) (spS X.K B kr (evS C G O (.par i j ea eb ki kj))) :=
  (ps_asg (pe_tup (pa_cons ha (pa_cons hb pa_nil st2) st)) (pg_tup (n := 2) hc (pgs_cons (pg_name hN hi hx fx) (pgs_cons (pg_name hN hj hy fy) pgs_nil))) hs hw).imp fun Dn σ H ⟨ρ, Z, F, r, s, ev, fin⟩ => by
    simp only [evS] at ev
    obtain ⟨⟨d, ρ1⟩, e1, ev⟩ := Option.bind_eq_some_iff.mp ev
    obtain ⟨⟨d', ρ2⟩, e2, ev⟩ := Option.bind_eq_some_iff.mp ev
    obtain ⟨ρ3, e3, ev⟩ := Option.bind_eq_some_iff.mp ev
    obtain ⟨ρ4, e4, ev⟩ := Option.bind_eq_some_iff.mp ev
    cases ev
    refine ⟨ρ, Z, F, d, ρ1, s, e1, fun v H1 Z1 F1 T1 s1 r1 o1 => ⟨ρ1, Z1, F1, d', ρ2, s1, e2, fun w H9 Z2 F2 T2 s9 r9 o9 => ⟨(show 2 ≤ sizeLine by decide), fun p n => ?_⟩⟩⟩
    have kp := keep_upd (o := .tup [v, w]) n
    have s2 : SR X.K B σ ρ2 (upd H9 p (.tup [v, w])) Z2 F2 := s9.more kp (fun _ z => z) s9.nz (fun a z => let ⟨o, e⟩ := s9.zt a z; ⟨o, kp _ _ e⟩) (s9.gd.tup (show 2 ≤ sizeLine by decide))
    have r2 : Rs H1 Z1 F1 (upd H9 p (.tup [v, w])) Z2 F2 T2 := ⟨r9.ps.trans (Ps.new n), fun a z => by
      obtain ⟨⟨vs, h1⟩, h2, h3⟩ := r9.tm a z
      exact ⟨⟨vs, kp _ _ h1⟩, h2, h3⟩, r9.tf⟩
    have o2 : Ow X.K (upd H9 p (.tup [v, w])) Z2 d' kj w T2 := o9.mono (fun _ z => z) fun a o e _ => kp a o e
    have e9 : SqT X.K (upd H9 p (.tup [v, w])) p [v, w] := .inl (.inl upd_same)
    generalize upd H9 p (.tup [v, w]) = H2 at *
    refine ⟨p, [v, w], rfl, e9, rfl, v, [w], rfl, w, [], rfl, rfl, ?_⟩
    have o1' := r2.ps.ow s1 r1.tm o1
    have tm1 := r1.tm.ps r2.ps
    have rs1 : Rs H Z F H2 Z2 F2 T1 := ⟨r1.ps.trans r2.ps, tm1, r1.tf⟩
    have dj : ∀ a, T2 a → ¬ T1 a := fun a z y => by
      obtain ⟨⟨vs, h1⟩, h2, h3⟩ := r1.tm a y
      rcases r2.tf a z with ⟨i, u⟩ | u
      · exact h3 i u
      · rw [h1] at u; cases u
    obtain ⟨rfl, hi3⟩ := putR_some e3
    have s3 := s2.put i (k := ki) (d := d) o1' tm1
    have p3 := rs1.put i ρ2
    have tm2 : Tm H2 Z2 (fun j => if j = i then (if i < ρ2.length then T1 else fun _ => False) else F2 j) T2 := fun a z => by
      obtain ⟨h1, h2, h3⟩ := r2.tm a z
      refine ⟨h1, h2, fun j' y => ?_⟩
      dsimp only at y
      by_cases e1 : j' = i
      · rw [if_pos e1, if_pos hi3] at y
        exact dj a z y
      · rw [if_neg e1] at y
        exact h3 j' y
    have rs2 : Rs H Z F H2 Z2 (fun j => if j = i then (if i < ρ2.length then T1 else fun _ => False) else F2 j) T2 := ⟨p3, tm2, fun a z => by
      rcases r2.tf a z with ⟨i, u⟩ | u
      · exact r1.ps.fn i a u
      · exact .inr (none_of_dom r1.ps.dom u)⟩
    obtain ⟨F5, s5, p5⟩ := put_any s3 e4 rfl o2 rs2
    exact fin _ _ _ _ s5 p5
/-- for x in (a, b, ..): lists of the frame's own, each handed to x in its turn -/
theorem s_mvl {x n k : Nat} {nx : Str} {px pt : Pos} {l : List Expr} {es : Exs} {b : List Stmt} {sb : Sms} {ks : List Nat} (hp : PassesOwn (model X.prog X.w) X.A X.env X.xe) (hc : X.calm = true) (hN : X.N.Nodup) (hi : X.N[x]? = some nx) (hx : Loc X.env.scope nx)
    (fx : X.fn nx = true ∨ X.env.scope.names.lookup nx = some .local) (he : PA X l (spL X.K B (evL C G es) k)) (hz : lenX es ≤ 1000) (hb : PSs X b (spS X.K B kr (evSs C G O sb)))
    (hs : ∀ x, foldedSetIterable (.Tuple l n pt) X.env x = pure x) : PS X (.For (.Name nx px) (.Tuple l n pt) b [] pos) (spS X.K B kr (evS C G O (.mvl x es k sb ks))) :=
  (ps_for hp hc (pi_tup (pe_tup he)) (pg_name hN hi hx fx) hb hs).imp fun Dn σ H ⟨ρ, Z, F, r, s, ev, fin⟩ => by
    simp only [evS] at ev
    obtain ⟨⟨ds, ρ1⟩, e1, ev⟩ := Option.bind_eq_some_iff.mp ev
    refine ⟨ρ, Z, F, ds, ρ1, s, e1, fun vs H9 Z1 F1 T s9 r9 o9 => ?_⟩
    have hl : ds.length = vs.length := owL_len o9
    have z : vs.length ≤ sizeLine := by
      rw [← hl, evL_len e1]
      exact Nat.le_trans hz (by decide)
    refine ⟨z, fun p np => ⟨p, rfl, ⟨vs, .inl (.inl upd_same)⟩, ?_⟩⟩
    have kp := keep_upd (o := .tup vs) np
    have s1 : SR X.K B σ ρ1 (upd H9 p (.tup vs)) Z1 F1 := s9.more kp (fun _ z => z) s9.nz (fun a z => let ⟨o, e⟩ := s9.zt a z; ⟨o, kp _ _ e⟩) (s9.gd.tup z)
    have r1 : Rs H Z F (upd H9 p (.tup vs)) Z1 F1 T := ⟨r9.ps.trans (Ps.new np), fun a z => by
      obtain ⟨⟨vs, h1⟩, h2, h3⟩ := r9.tm a z
      exact ⟨⟨vs, kp _ _ h1⟩, h2, h3⟩, r9.tf⟩
    have o1 : OwL X.K (upd H9 p (.tup vs)) Z1 ds k vs T := o9.mono (fun _ z => z) fun a o e _ => kp a o e
    have e9 : SqT X.K (upd H9 p (.tup vs)) p vs := .inl (.inl upd_same)
    generalize upd H9 p (.tup vs) = H1 at *
    refine ⟨fun i m σ2 H2 => m = ds.length - i ∧ i ≤ ds.length ∧ ∃ ρi Z2 F2 T2, SR X.K B σ2 ρi H2 Z2 F2 ∧ Ps H Z F H2 Z2 F2 ∧ SqT X.K H2 p vs ∧ OwL X.K H2 Z2 (ds.drop i) k (vs.drop i) T2 ∧ Tm H2 Z2 F2 T2 ∧ (∀ a, T2 a → (∃ j, F j a) ∨ H a = none) ∧
      forL (fun d ρ => (putR ρ x (mkR k d)).bind fun ρ' => evSs C G O sb ρ') ks (ds.drop i) ρi = some r,
      ⟨ds.length, by simp, Nat.zero_le _, kills ρ1 ks, Z1, dropF F1 ks, T, s1.kill ks rfl fun _ _ => rfl, r1.ps.trans (Ps.kill ks), e9, by simpa using o1, r1.tm.ps (Ps.kill ks), r1.tf, by simpa using ev⟩, ?_⟩
    rintro i m σ2 H2 ⟨rfl, hi2, ρi, Z2, F2, T2, s2, p2, sq, o2, tm, tf, ef⟩
    by_cases hlt : i < ds.length
    · right
      have hv : i < vs.length := by omega
      refine ⟨⟨vs, vs[i], sq, List.getElem?_eq_getElem hv⟩, fun σ' H' => ∃ ρi Z2 F2 T2, SR X.K B σ' ρi H' Z2 F2 ∧ Ps H Z F H' Z2 F2 ∧ SqT X.K H' p vs ∧ OwL X.K H' Z2 (ds.drop (i + 1)) k (vs.drop (i + 1)) T2 ∧ Tm H' Z2 F2 T2 ∧ (∀ a, T2 a → (∃ j, F j a) ∨ H a = none) ∧
        forL (fun d ρ => (putR ρ x (mkR k d)).bind fun ρ' => evSs C G O sb ρ') ks (ds.drop (i + 1)) ρi = some r, fun σ' H' w => ⟨ds.length - (i + 1), by omega, rfl, hlt, w⟩, fun y Hy yl => ?_⟩
      obtain ⟨rfl, yl⟩ := yl
      have ye := yl vs sq
      rw [List.getElem?_eq_getElem hv] at ye
      cases ye
      rw [List.drop_eq_getElem_cons hlt] at ef o2
      rw [List.drop_eq_getElem_cons hv] at o2
      simp only [forL] at ef
      obtain ⟨r2, ef1, ef2⟩ := Option.bind_eq_some_iff.mp ef
      obtain ⟨ρt, et, ef3⟩ := Option.bind_eq_some_iff.mp ef1
      unfold OwL at o2
      obtain ⟨v, ws, Ta, Tb, ev2, oa, ob, dj, tt⟩ := o2
      cases ev2
      obtain ⟨rfl, hi3⟩ := putR_some et
      have tma : Tm Hy Z2 F2 Ta := fun a z => tm a ((tt a).2 (.inl z))
      have tmb : Tm Hy Z2 F2 Tb := fun a z => tm a ((tt a).2 (.inr z))
      have rsa : Rs H Z F Hy Z2 F2 Ta := ⟨p2, tma, fun a z => tf a ((tt a).2 (.inl z))⟩
      have s3 := s2.put x (k := k) (d := ds[i]) oa tma
      have p3 := rsa.put x ρi
      have tm3 : Tm Hy Z2 (fun j => if j = x then (if x < ρi.length then Ta else fun _ => False) else F2 j) Tb := fun a z => by
        obtain ⟨h1, h2, h3⟩ := tmb a z
        refine ⟨h1, h2, fun j' y => ?_⟩
        dsimp only at y
        by_cases e1 : j' = x
        · rw [if_pos e1, if_pos hi3] at y
          exact dj a y z
        · rw [if_neg e1] at y
          exact h3 j' y
      generalize (fun j => if j = x then (if x < ρi.length then Ta else fun _ => False) else F2 j : FS) = F3 at *
      refine ⟨_, Z2, F3, r2, s3, ef3, ?_⟩
      have go : ∀ {ρ' : Env} {σ' : L2.St} {H' : Hp} {Z' : AS} {F' : FS}, forL (fun d ρ => (putR ρ x (mkR k d)).bind fun ρ' => evSs C G O sb ρ') ks (ds.drop (i + 1)) (kills ρ' ks) = some r → SR X.K B σ' ρ' H' Z' F' → Ps Hy Z2 F3 H' Z' F' →
          ∃ ρi Z2 F2 T2, SR X.K B σ' ρi H' Z2 F2 ∧ Ps H Z F H' Z2 F2 ∧ SqT X.K H' p vs ∧ OwL X.K H' Z2 (ds.drop (i + 1)) k (vs.drop (i + 1)) T2 ∧ Tm H' Z2 F2 T2 ∧ (∀ a, T2 a → (∃ j, F j a) ∨ H a = none) ∧
            forL (fun d ρ => (putR ρ x (mkR k d)).bind fun ρ' => evSs C G O sb ρ') ks (ds.drop (i + 1)) ρi = some r := fun {ρ' σ' H' Z' F'} e' s' p' =>
        ⟨_, Z', _, Tb, s'.kill ks rfl fun _ _ => rfl, (p3.trans p').trans (Ps.kill ks), sqT_mono sq fun b o e n => ps_kp s3 p' b o e (.inr n), p'.owL s3 tm3 ob, (tm3.ps p').ps (Ps.kill ks), fun a z => tf a ((tt a).2 (.inr z)), e'⟩
      cases r2 with
      | nx ρ' => exact fun σ' H' Z' F' s' p => go ef2 s' p
      | ct ρ' => exact fun σ' H' Z' F' s' p => go ef2 s' p
      | bk ρ' =>
        cases ef2
        exact fun σ' H' Z' F' s' p => fin σ' H' Z' _ (s'.kill ks rfl fun _ _ => rfl) ((p3.trans p).trans (Ps.kill ks))
      | rt d ρ' =>
        cases ef2
        exact fun v σ' H' Z' F' T s' p o => fin v σ' H' Z' F' T s' (Rs.pre p3 p) o
    · left
      have e : i = ds.length := by omega
      subst e
      rw [List.drop_length] at ef
      simp only [forL] at ef
      cases ef
      exact ⟨⟨vs, sq, by omega⟩, fin σ2 H2 Z2 F2 s2 p2⟩
end
end
end BW

/-! BwX6: ranges by a step, x[i] += n. -/
namespace BW
noncomputable section
open PySem PySem.Spec PyProof.Rows L2
theorem wk_rngC {K : PySem.W.Frag} {H : Hp} {Z : AS} {lo st : Int} {n : Nat} (h : n ≤ sizeLine) : Wk K (Itc lo st n) (stepTo lo st n) H Z where
  len := by unfold stepTo; rw [List.length_map, List.length_range]; exact h
  stop := fun _ => by
    show n ≤ (stepTo lo st n).length
    unfold stepTo
    rw [List.length_map, List.length_range]
    exact Nat.le_refl _
  go := fun {B σ ρ H' Z' F'} s p _ i hi => by
    have hi' : i < n := by
      unfold stepTo at hi
      rw [List.length_map, List.length_range] at hi
      exact hi
    refine ⟨hi', fun x H2 y => ?_⟩
    obtain ⟨rfl, rfl⟩ := y
    refine ⟨s, Ps.refl, ?_⟩
    have e : (stepTo lo st n)[i] = .int (lo + (i : Nat) * st) := by
      apply Option.some.inj
      rw [← List.getElem?_eq_getElem hi]
      unfold stepTo
      rw [List.getElem?_map, List.getElem?_range hi']
      rfl
    rw [e]
    rfl
section
variable {X : Cx} {B : Bk} {C : Calls} {G : Nat → D} {O : Nat → Nat} {k kr : Nat} {pos : Pos} {e ex ea eb ec : Ex} {a b c : Expr} {i : Nat}
theorem i_rng3 {p : Pos} {tg : Expr} (hg : Gl X "range") (hm : X.mg "range" = none) (ha : PE X a (spE X.K B C G ea 0)) (hb : PE X b (spE X.K B C G eb 0)) (hc : PE X c (spE X.K B C G ec 0))
    (hs : starEach [a, b, c] X.env = (false, eval a X.env) :: starEach [b, c] X.env) (hs2 : starEach [b, c] X.env = (false, eval b X.env) :: starEach [c] X.env) (hs3 : starEach [c] X.env = [(false, eval c X.env)]) :
    PI X tg (.Call (.Name "range" p) [a, b, c] [] pos) (spI X.K B (evI C G (.rng3 ea eb ec))) :=
  (pi_range3 hg hm (pa_cons ha (pa_cons hb (pa_cons hc pa_nil (by rw [hs3]; rfl)) hs2) hs) hs (by rw [hs2, hs3]; rfl)).imp fun σ H R ⟨ρ, Z, F, ds, ρ', s, e, q⟩ => by
    simp only [evI] at e
    obtain ⟨⟨x, ρ1⟩, e1, e⟩ := Option.bind_eq_some_iff.mp e
    obtain ⟨m, e2, e⟩ := Option.bind_eq_some_iff.mp e
    obtain ⟨⟨y, ρ2⟩, e3, e⟩ := Option.bind_eq_some_iff.mp e
    obtain ⟨n, e4, e⟩ := Option.bind_eq_some_iff.mp e
    obtain ⟨⟨z, ρ3⟩, e5, e⟩ := Option.bind_eq_some_iff.mp e
    obtain ⟨st, e6, e⟩ := Option.bind_eq_some_iff.mp e
    split at e
    · rename_i h
      cases e
      cases x <;> cases e2
      cases y <;> cases e4
      cases z <;> cases e6
      unfold stepOk at h
      simp only [Bool.and_eq_true, decide_eq_true_eq] at h
      obtain ⟨⟨⟨⟨h1, h2⟩, h3⟩, h4⟩, h5⟩ := h
      refine ⟨ρ, Z, F, _, _, s, e1, fun v H1 Z1 F1 T1 s1 r1 w1 => ⟨_, Z1, F1, _, _, s1, e3, fun u H2 Z2 F2 T2 s2 r2 w2 => ⟨_, Z2, F2, _, _, s2, e5, fun w H' Z' F' T s' r w3 =>
        ⟨m, n, st, _, by rw [ow_int w1, ow_int w2, ow_int w3], ⟨h1, h2, h3, h4⟩, ?_⟩⟩⟩⟩
      exact q _ H' Z' F' s' ((r1.ps.trans r2.ps).trans r.ps) (wk_rngC (by have : sizeLine = 16777216 := rfl; omega))
    · cases e
def rIxP (K : PySem.W.Frag) : R2 := fun x y H Q => ∃ p xs i v, x = .ref p ∧ y = .int i ∧ 0 ≤ i ∧ SqL K H p xs ∧ atI xs i = some v ∧ Q v H
theorem get_list : PGet X (rIxP X.K) := by
  intro pins s σ H x y v u Q I rx ry h
  obtain ⟨p, xs, i, z, rfl, rfl, h0, hq, he, q⟩ := h
  cases rx
  obtain ⟨t, rfl⟩ := ry
  obtain ⟨its, r, pl, hz⟩ := I.list hq
  obtain ⟨j, h1, h2, h3, h4, h5⟩ := atI_get he
  obtain ⟨w, ew, rw'⟩ := r.get h2
  have hl := r.length
  have hn := line63
  have hj : i.toNat = j := by
    rw [seqIndex_of h0 h5] at h1
    exact Option.some.inj h1
  exact wpAny_getItem_list pl.isList h0 (by omega) (by rw [hj]; simpa using ew) ⟨z, H, I, rw', q⟩
/-- x[e] += n -/
theorem s_augi {x : Str} {xp sp : Pos} {ax ix : Expr} (hN : X.N[i]? = some x) (hv : Vis X.env.scope x) (hd : (x == ("__debug__" : Str)) = false) (hcd : (x == ("__classdict__" : Str)) = false)
    (ha : PE X ax (spE X.K B C G e 0)) (hi : PE X ix (spE X.K B C G ex 0))
    (hst : ∀ ov iv new, augStore ix ov iv new = (do holding [new, ov, iv] (setItem ov iv new); release [new, ov, iv] []; pure .next)) :
    PS X (.AugAssign (.Subscript (.Name x xp) ix sp) .Add ax pos) (spS X.K B kr (evS C G O (.augi i ex e))) := by
  refine ⟨fun pins s σ H Dn I ⟨ρ, Z, F, rr, sr, ev, fin⟩ => ?_⟩
  simp only [evS] at ev
  split at ev
  case isFalse => cases ev
  rename_i hl
  obtain ⟨⟨y, ρ1⟩, e1, ev⟩ := Option.bind_eq_some_iff.mp ev
  obtain ⟨n, e2, ev⟩ := Option.bind_eq_some_iff.mp ev
  obtain ⟨vv, e3, ev⟩ := Option.bind_eq_some_iff.mp ev
  dsimp only at ev
  split at ev
  case isFalse => cases ev
  rename_i hk
  obtain ⟨d0, e4, ev⟩ := Option.bind_eq_some_iff.mp ev
  obtain ⟨m, e5, ev⟩ := Option.bind_eq_some_iff.mp ev
  obtain ⟨⟨q, ρ2⟩, e6, ev⟩ := Option.bind_eq_some_iff.mp ev
  obtain ⟨t, e7, ev⟩ := Option.bind_eq_some_iff.mp ev
  obtain ⟨r', e8, ev⟩ := Option.bind_eq_some_iff.mp ev
  cases ev
  cases y <;> cases e2
  cases d0 <;> cases e5
  cases q <;> cases e7
  obtain ⟨v0, hv0⟩ := isLst_at sr hl
  refine (ps_augS (pe_var hN hv hd hcd) hi get_list ha ip_add set_list hst).run pins s σ H Dn I ?_
  refine ⟨v0, hv0, ρ, Z, F, _, ρ1, sr, e1, fun w H1 Z1 F1 T1 s1 r1 o1 => ?_⟩
  obtain ⟨hk1, hn0, hl1⟩ := hk
  obtain ⟨l, hvl, a, vs, ev0, hla, oa⟩ : ∃ l, vv.2 = .list l ∧ ∃ a vs, v0 = .ref a ∧ H1 a = some (.lst vs) ∧ FzL X.K H1 Z1 l vs := by
    have hs := s1.sl i
    have go : ∀ {d : D} {v : V}, σ[i]? = some (some v) → Ow X.K H1 Z1 d 1 v (F1 i) → (∃ l, d = .list l) → ∃ l, d = .list l ∧ ∃ a vs, v0 = .ref a ∧ H1 a = some (.lst vs) ∧ FzL X.K H1 Z1 l vs := by
      rintro d v ev o ⟨l, rfl⟩
      rw [hv0] at ev
      cases ev
      unfold Ow at o
      obtain ⟨a, vs, T', e, ha, _, q, _⟩ := o
      exact ⟨l, rfl, a, vs, e, ha, (owL_zero.1 q).1⟩
    cases hsl : slot ρ1 i with
    | own k d =>
      rw [hsl] at hs e3 hl1
      cases e3
      obtain ⟨v, ew, o⟩ := hs
      cases hk1
      cases d with
      | list l => exact go ew o ⟨l, rfl⟩
      | _ => cases hl1
    | io k d =>
      rw [hsl] at hs e3 hl1
      cases e3
      obtain ⟨_, v, ew, o⟩ := hs
      cases hk1
      cases d with
      | list l => exact go ew o ⟨l, rfl⟩
      | _ => cases hl1
    | un => rw [hsl] at e3; cases e3
    | val d => rw [hsl] at hl1; cases hl1
    | scr d => rw [hsl] at e3; cases e3
    | exc d => rw [hsl] at e3; cases e3
  subst ev0
  rw [hvl] at e4
  obtain ⟨j, e9, e10⟩ := Option.bind_eq_some_iff.mp e4
  have hlen := oa.length
  obtain ⟨u, hu, fu⟩ := FzL.get oa e10
  refine ⟨a, vs, n, u, rfl, ow_int o1, hn0, .inl (.inl hla), ?_, ρ1, Z1, F1, _, ρ2, s1, e6, fun w2 H2 Z2 F2 T2 s2 r2 o2 => ⟨m, t, fu, ow_int o2, ?_⟩⟩
  · unfold atI
    rw [← hlen]
    show (ixAt l.length n).bind _ = _
    rw [e9]
    exact hu
  obtain ⟨k0, d0, kk, l1, l1', hk0, hk, hm⟩ := chgR_kk e8
  obtain ⟨k1, d1, d1', v1, c1, c2, c3, c4, c5⟩ := chgR_some s2 e8
  rw [hk0] at c4; cases c4
  rw [hv0] at c2; cases c2
  obtain ⟨is, a2, vs2, l0, kk', Ti, l0', g1, g2, g3, g4, g5, g6, g7, g8⟩ := wr_core s2 hv0 c3 c1
  cases g1
  cases g2
  obtain ⟨q1, q2, q3, q4, q5⟩ := g8 (T := fun _ => False) (r1.ps.trans r2.ps) (s2.drop i) Ps.refl Tm.none (fun b z => z.elim) fun b z => z.elim
  split at g6
  case isFalse => cases g6
  rename_i hkk
  subst hkk
  obtain ⟨j2, hj, e11⟩ := Option.bind_eq_some_iff.mp g6
  cases e11
  have hjl : j2 < l0.length := (ixN_seq hj).2.1
  obtain ⟨Tn, w1, w3⟩ := q2.set hjl (d := .int (m + t)) (w := .int (m + t)) (T2 := fun _ => False) ⟨rfl, fun _ z => z⟩ fun b z => z.elim
  refine ⟨a, vs2, n, j2, rfl, ow_int o1, q1, by rw [← owL_len q2]; exact hj, ?_⟩
  obtain ⟨F', s', p'⟩ := q5 w1 (fun b z => w3 b z) (by rw [List.length_set]; exact q4) c5
  rw [List.set_set] at s'
  exact fin _ _ _ _ s' p'
end
end
end BW

/-! BwX7: refusals: caught, kept in a name. -/
namespace BW
noncomputable section
open PySem PySem.Spec PyProof.Rows L2
section
variable {X : Cx} {pins : List (Addr × Obj)} {σ : L2.St} {H : Hp} {s : Shared} {a : Addr} {oe : Obj} {vs : Array Value} {cls : Value}
theorem exC_ok {P : Program} {w : World} {h : Heap} (e : h.get? a = some oe) (z : Zc cls none oe) (d : oe.data = .fields vs) : ObjOk P w H h a (ExC cls a) :=
  ⟨⟨oe, vs, e, z, d⟩, ⟨oe, e⟩, fun _ _ ⟨o, v, q, r⟩ k => ⟨o, v, k o q, r⟩⟩
/-- an object that was pinned is tracked from here on -/
theorem inv_track (I : Inv X ((a, oe) :: pins) σ H s) (hz : Zc cls none oe) (hd : oe.data = .fields vs) (h0 : X.s_0.heap.get? a = none) (hp : ∀ p ∈ X.pn ++ pins, p.1 ≠ a) : Inv X pins σ (upd H a (ExC cls a)) s := by
  obtain ⟨e, n, nl, nf, nc⟩ := I.pin (a, oe) (List.mem_append_right _ (List.mem_cons_self ..))
  have ne : ∀ b o, X.s_0.heap.get? b = some o → b ≠ a := fun b o q z => by rw [z, h0] at q; cases q
  have nh : ∀ b o, H b = some o → b ≠ a := fun b o q z => by
    rw [z] at q
    rw [show H a = none from n] at q
    cases q
  refine ⟨I.ok, I.os, I.bare, ⟨I.base.keep, I.base.slot, fun b o q1 q2 q3 => ?_, I.base.there, fun b xs q => ?_, fun b o u q => ?_, fun b ps q => ?_⟩, I.loc, I.cell, ?_, fun x c q => ?_, fun p hp' => ?_, I.hok.laidN (fun _ _ q => q) n (exC_ok e hz hd), I.len⟩
  · rw [upd_ne (ne b o q1)]
    exact I.base.free b o q1 q2 q3
  · have := I.base.tups b xs q
    rw [upd_ne (nh b _ this)]
    exact this
  · have := I.base.frzs b o u q
    rw [upd_ne (nh b _ this)]
    exact this
  · obtain ⟨m, q⟩ := I.base.tbls b ps q
    exact ⟨m, by rw [upd_ne (nh b _ q)]; exact q⟩
  · rw [upd_ne (Ne.symm nl)]
    exact I.free
  · obtain ⟨v, o, ho, hc⟩ := I.cell x c q
    rw [upd_ne (fun z => by rw [z] at ho; rw [show s.heap.get? a = some oe from e] at ho; cases ho; exact nc v hc)]
    exact I.freeC x c q
  · obtain ⟨q1, q2, q3⟩ := I.pin p (by
      rcases List.mem_append.mp hp' with h | h
      · exact List.mem_append_left _ h
      · exact List.mem_append_right _ (List.mem_cons_of_mem _ h))
    exact ⟨q1, by rw [upd_ne (hp p hp')]; exact q2, q3⟩
end
section
variable {X : Cx}
theorem inv_stay {pins : List (Addr × Obj)} {σ : L2.St} {H : Hp} {s : Shared} {a : Addr} {q : Addr × Obj} (I : Inv (X.suite a (q :: (X.pn ++ pins))) [] σ H s) (ok : X.Ok) : Inv X (q :: pins) σ H s :=
  ⟨ok, I.os, I.bare, I.base, I.loc, I.cell, I.free, I.freeC, fun p hp => I.pin p (by
    rw [List.append_nil]
    rcases List.mem_append.mp hp with h | h
    · exact List.mem_cons_of_mem _ (List.mem_append_left _ h)
    · rcases List.mem_cons.mp h with h | h
      · rw [h]; exact List.mem_cons_self ..
      · exact List.mem_cons_of_mem _ (List.mem_append_right _ h)), I.hok, I.len⟩
/-- what the clause 'except x as n: y = n' wishes: slot i is n's, j is y's -/
def wSet (K : PySem.W.Frag) (c : Value) (i j : Nat) (D : Ends) : WX := fun cls d σ H => d = none ∧ PySem.W.exmOne K cls c = some true ∧ ∀ a, H a = none → D.nx (((σ.set i (some (.ref a))).set j (some (.ref a))).set i none) (upd H a (ExC cls a))
theorem ps_try_set {x n y : Str} {c : Value} {i j : Nat} {body : List Stmt} {np yp np2 ap pos pos' : Pos} {tb : WX → TS} (hs : X.stack = X.env :: X.outer) (hf : X.env.frame = some X.env.locals) (hex : X.ex = []) (hN : X.N.Nodup) (hi : X.N[i]? = some n) (hln : X.env.kindOf n = some .local) (hc : Names X x c)
    (hij : i < X.N.length) (hj : X.N[j]? = some y) (hy : Loc X.env.scope y) (hyf : X.fn y = true ∨ X.env.scope.names.lookup y = some .local) (nd : (n == ("__debug__" : Str)) = false) (ncd : (n == ("__classdict__" : Str)) = false)
    (hb : ∀ (W : WX) (pn : List (Addr × Obj)) (xe : Value → Shared → Prop), Takes (X.tr pn xe) W → PassesOwn (model X.prog X.w) X.A X.env xe → PSs (X.tr pn xe) body (tb W)) :
    PS X (.Try body [.ExceptHandler (some (.Name x np)) (some n) [.Assign [.Name y yp] (.Name n np2) ap] pos'] [] [] pos) (fun D σ H => tb (wSet X.K c i j D) D σ H) := by
  refine ⟨fun pins s σ H D I h => ?_⟩
  have ok := I.ok
  have hfr : X.A.frames = some (X.env :: X.outer) := by rw [ok.frames, hs]
  have hloc : Loc X.env.scope n := .inl hln
  refine wpAny_Try_except ?_
  refine wpAny_mono ((hb (wSet X.K c i j D) (X.pn ++ pins) (fun e s₁ => wpAny (model X.prog X.w) X.A (noteFrame e X.env) (fun _ s₂ => wpAny (model X.prog X.w) X.A (setFlight e none) (fun _ s₃ =>
    wpAny (model X.prog X.w) X.A (handleBy e X.env [.ExceptHandler (some (.Name x np)) (some n) [.Assign [.Name y yp] (.Name n np2) ap] pos']) (SP X pins D) X.xe s₃) X.xe s₂) X.xe s₁) (fun u s' xx => ?_) PassesOwn.looking).run [] s σ H D (I.toTry _) h) (fun f s1 hsp => ?_) (fun e s1 he => he)
  · obtain ⟨a, Bh, sI, pins', σ', H', cls, d, rfl, J', nb, up, sky, na, os, ag, hd0, hb1, hyes⟩ := xx
    subst hd0
    have J : Inv X pins σ' H' sI := J'.ofTry ok
    have sky' : Sky Bh (X.env :: X.outer) a (Zc cls none) X.env.locals s'.heap := by rw [← hs]; exact sky
    show wpAny (model X.prog X.w) X.A (noteFrame (.ref a) X.env) _ _ _
    refine Sky.land Zc.steady hfr hf sky' fun h3 fl3 up3 => ?_
    have J3 : Inv X pins σ' H' { s' with heap := h3 } := J.landed nb fl3.1 (up.trans up3) os ag
    obtain ⟨oe3, vs3, he3, hz3, hd3⟩ := fl3.there
    have notFr : ∀ {h : Heap} {o : Obj} {vs : Array Value}, h.FunFrames Bh (X.env :: X.outer) → h.get? a = some o → o.data = .fields vs → a ∉ frs (X.env :: X.outer) := fun {h o vs} ff e dd hm => by
      obtain ⟨_, o', e', hnf⟩ := ff.mem hm
      rw [e] at e'; cases e'
      exact hnf _ dd
    have nfr := notFr fl3.2.2.1 he3 hd3
    have nL : a ≠ X.env.locals := fun z => nfr (List.mem_filterMap.mpr ⟨X.env, List.mem_cons_self, by rw [hf, z]⟩)
    have nF : a ∉ X.fs := fun hm => by
      obtain ⟨e, he, q⟩ := List.mem_filterMap.mp hm
      exact nfr (List.mem_filterMap.mpr ⟨e, List.mem_cons_of_mem _ he, q⟩)
    have nBh : Bh.get? a = none := fl3.2.1
    have nsI : sI.heap.get? a = none := by
      cases e : sI.heap.get? a with
      | none => rfl
      | some o =>
        have := nb a o e (by rw [hs]; exact nfr)
        rw [nBh] at this
        cases this
    have n0 : X.s_0.heap.get? a = none := by
      cases e : X.s_0.heap.get? a with
      | none => rfl
      | some o =>
        obtain ⟨o', e'⟩ := J.base.there a o e (by rw [hex]; simp)
        rw [nsI] at e'
        cases e'
    have npin : ∀ p ∈ X.pn ++ pins, p.1 ≠ a := fun p hp z => by
      have := (J.pin p hp).1
      rw [z, nsI] at this
      cases this
    have S3 := J3.suite he3 hd3 na nL nF
    refine wpAny_handleBy_cons (codeAny_handlers_test ?_) (by intro q; cases q)
    have LT : PySem.W.Looks (model X.prog X.w) h3 (typeOf (.ref a)) cls := fun A Q E s k q => wpAny_typeOf_ref (k _ _ he3) (by rw [hz3.1]; exact q)
    have LM := PySem.W.exm_one (M := model X.prog X.w) (J3.kIn) LT hb1
    have test : ∀ {Q : Value → Shared → Prop} {E : Value → Shared → Prop}, Q c { s' with heap := h3 } → wpAny (model X.prog X.w) (X.A.mark (some (.ref a))) (eval (.Name x np) X.env) Q E { s' with heap := h3 } := fun {Q E} q => by
      obtain ⟨hg, hdbg, hm | ⟨hm, hv, hnn⟩⟩ := hc
      · exact ld_glob (X := X.suite a ((a, oe3) :: (X.pn ++ pins))) S3 hg hm q hdbg
      · exact ld_blt (X := X.suite a ((a, oe3) :: (X.pn ++ pins))) S3 hg hm hv q hnn hdbg
    refine test (LM.here ?_)
    refine codeAny_handlers_suite_as ?_
    refine HandSPX.lands_againZ fl3 fun h4 fl4 up4 => ?_
    have J4 : Inv X pins σ' H' { s' with heap := h4 } := J.landed nb fl4.1 ((up.trans up3).trans up4) os ag
    obtain ⟨oe4, vs4, he4, hz4, hd4⟩ := fl4.there
    have S4 := J4.suite he4 hd4 na nL nF
    refine store_ok (X := X.suite a ((a, oe4) :: (X.pn ++ pins))) (v := .ref a) S4 hN hi hloc rfl (fun s5 S5 => ?_) (.inr hln)
    have sl : PSs (X.suite a ((a, oe4) :: (X.pn ++ pins))) [.Assign [.Name y yp] (.Name n np2) ap] _ := pss_one (ps_set (X := X.suite a ((a, oe4) :: (X.pn ++ pins))) hN hj hy (pe_var hi (.inl hln) nd ncd) rfl hyf)
    have hlen : i < σ'.length := by rw [J.len]; exact hij
    refine wpAny_mono (sl.run [] s5 _ H' { nx := fun σ6 H6 => σ6 = (σ'.set i (some (.ref a))).set j (some (.ref a)) ∧ H6 = H', rt := fun _ _ => False } S5 ⟨.ref a, by rw [List.getElem?_set_self hlen], rfl, rfl⟩) (fun f s6 hsp => ?_) (fun _ _ z => False.elim z)
    cases f with
    | next =>
      obtain ⟨σ6, H6, S6, rfl, rfl⟩ := hsp
      refine gone_ok (inv_stay S6 ok) hN hi hln fun s7 J7 => ?_
      exact ⟨_, _, inv_track J7 hz4 hd4 n0 npin, hyes a na⟩
    | brk =>
      obtain ⟨σ6, H6, S6, q6⟩ := hsp
      exact q6.elim
    | cont =>
      obtain ⟨σ6, H6, S6, q6⟩ := hsp
      exact q6.elim
    | ret u =>
      obtain ⟨v6, σ6, H6, S6, r6, q6⟩ := hsp
      exact q6.elim
  · cases f with
    | next =>
      obtain ⟨σ', H', J', q⟩ := hsp
      exact wpAny_execs_nil ⟨σ', H', J'.ofTry ok, q⟩
    | brk =>
      obtain ⟨σ', H', J', q⟩ := hsp
      exact ⟨σ', H', J'.ofTry ok, q⟩
    | cont =>
      obtain ⟨σ', H', J', q⟩ := hsp
      exact ⟨σ', H', J'.ofTry ok, q⟩
    | ret u =>
      obtain ⟨v, σ', H', J', r, q⟩ := hsp
      exact ⟨v, σ', H', J'.ofTry ok, r, q⟩
end
/-! ### isinstance of a refusal -/
section
variable {X : Cx} {B : Bk} {C : Calls} {G : Nat → D} {O : Nat → Nat} {k kr : Nat} {pos : Pos} {i : Nat}
def rIsX (K : PySem.W.Frag) : List V → Hp → VK → Prop := fun xs H Q => ∃ (a D : Addr) (c : V) (cv : Value) (b : Bool), xs = [.ref a, c] ∧ H a = some (ExC (.ref D) a) ∧ ExcC K D ∧ ClsV c cv ∧ PySem.W.kitOne K (.ref D) cv = some b ∧ Q (.bl b) H
def rIsXT (K : PySem.W.Frag) : List V → Hp → VK → Prop := fun xs H Q => ∃ (a D tp : Addr) (cs : List V) (us : List Value) (b : Bool), xs = [.ref a, .ref tp] ∧ H a = some (ExC (.ref D) a) ∧ ExcC K D ∧ H tp = some (.tup cs) ∧ Paired ClsV cs us ∧ PySem.W.kitAny K (.ref D) us = some b ∧ Q (.bl b) H
theorem exc_inst {pins : List (Addr × Obj)} {σ : L2.St} {H : Hp} {s : Shared} {a D : Addr} (I : Inv X pins σ H s) (h : H a = some (ExC (.ref D) a)) : ∃ oe, PySem.W.InstAt s.heap a oe D none := by
  obtain ⟨⟨oe, vs, e, ⟨h1, h2⟩, hv⟩, _, _⟩ := I.hok a _ h
  obtain ⟨oc, od, oda, osl⟩ := oe
  dsimp only at h1 h2 hv
  subst h1 h2 hv
  exact ⟨_, e, rfl, rfl, trivial⟩
theorem call_isX : CallR X (.builtin "isinstance") (rIsX X.K) := by
  intro pins s σ H xs us Q I r h
  obtain ⟨a, D, c, cv, b, rfl, ha, C, k, e, q⟩ := h
  obtain ⟨u1, u2, rfl, r1, r2⟩ := vals2 r
  have e2 := k.eq r2
  subst e2
  cases (show u1 = Value.ref a from r1)
  obtain ⟨oe, J⟩ := exc_inst I ha
  exact PySem.W.kia_one (PySem.W.handS_kitx_exc C.hg C.hk C.hs C.hd C.ha C.hn C.ht C.hm) I.kIn J e (fun z => nomatch z) fun tk => ⟨.bl b, H, I.tok tk, rfl, q⟩
theorem call_isXT : CallR X (.builtin "isinstance") (rIsXT X.K) := by
  intro pins s σ H xs us Q I r h
  obtain ⟨a, D, tp, cs, ws, b, rfl, ha, C, hT, k, e, q⟩ := h
  obtain ⟨u1, u2, rfl, r1, r2⟩ := vals2 r
  cases (show u1 = Value.ref a from r1)
  cases (show u2 = Value.ref tp from r2)
  obtain ⟨oe, J⟩ := exc_inst I ha
  obtain ⟨_, its, rv, o, h1, h2, n, h3⟩ := (show ObjOk X.prog X.w H s.heap tp (.tup cs) from I.hok tp _ hT)
  have e3 := ClsV.all k rv
  subst e3
  obtain ⟨oc, od, dt, sl⟩ := o
  simp only at h2 h3
  subst h2 h3
  exact PySem.W.kia_tup (PySem.W.handS_kitx_exc C.hg C.hk C.hs C.hd C.ha C.hn C.ht C.hm) I.kIn J h1 e (fun z => nomatch z) fun tk => ⟨.bl b, H, I.tok tk, rfl, q⟩
/-- a class's value -/
def xV (K : PySem.W.Frag) (d : Str) : V := if d = "ValueError" then .ty "ValueError" else .ref (He.ga K d)
def xU (K : PySem.W.Frag) (d : Str) : Value := if d = "ValueError" then .type "ValueError" else .ref (He.ga K d)
theorem xV_cls {K : PySem.W.Frag} (d : Str) : ClsV (xV K d) (xU K d) := by
  unfold xV xU
  split
  · exact .ty _
  · exact .own _
/-- a class that isinstance is asked of -/
def XAsk (X : Cx) (d : Str) : Prop := Gl X d ∧ ((d = "ValueError" ∧ X.mg d = none) ∨ (d ≠ "ValueError" ∧ (d == ("__debug__" : Str)) = false ∧ d ∈ xcls ∧ PySem.W.nsIn X.K mainGlobals d = some (some (.ref (He.ga X.K d))) ∧ X.mg d = some (.ref (He.ga X.K d))))
theorem pe_cls {d : Str} {p : Pos} (h : XAsk X d) : PE X (.Name d p) (tC (xV X.K d)) := by
  obtain ⟨hg, ⟨rfl, hm⟩ | ⟨hn, hd, _, _, hm⟩⟩ := h
  · exact pe_bltn hg hm (u := .type "ValueError") (by decide +kernel) rfl (by decide) (by decide)
  · unfold xV
    rw [if_neg hn]
    exact pe_glob hg hm rfl hd
theorem kit_x {c d : Str} (ok : XOk X.K c) (h : XAsk X d) : PySem.W.kitOne X.K (.ref (He.ga X.K c)) (xU X.K d) = some (subC c d) := by
  obtain ⟨hg, ⟨rfl, hm⟩ | ⟨hn, _, hx, hk, hm⟩⟩ := h
  · show PySem.W.kitOne X.K _ (.type "ValueError") = _
    rw [ok.ve]
    simp [subC]
  · unfold xU
    rw [if_neg hn]
    exact (ok.kit d hx hk).1
theorem kit_xs {c : Str} (ok : XOk X.K c) : ∀ {ds : List Str}, (∀ d ∈ ds, XAsk X d) → PySem.W.kitAny X.K (.ref (He.ga X.K c)) (ds.map (xU X.K)) = some (ds.any (subC c))
  | [], _ => rfl
  | d :: ds, h => by
    rw [List.map_cons]
    refine kitAny_cons (kit_x ok (h d (List.mem_cons_self ..))) (fun e => ?_) fun e => ?_
    · rw [kit_xs ok fun d hd => h d (List.mem_cons_of_mem _ hd), List.any_cons, e, Bool.false_or]
    · rw [List.any_cons, e, Bool.true_or]
theorem s_isx1 {x d : Str} {xp p p2 : Pos} (hN : X.N[i]? = some x) (hv : Vis X.env.scope x) (hd : (x == ("__debug__" : Str)) = false) (hcd : (x == ("__classdict__" : Str)) = false) (hg : Gl X "isinstance") (hm : X.mg "isinstance" = none) (h : XAsk X d) :
    PE X (.Call (.Name "isinstance" p) [.Name x xp, .Name d p2] [] pos) (spE X.K B C G (.isx i [d]) k) :=
  (pe_callB call_isX hg hm (by decide +kernel) (pa_cons (pe_var hN hv hd hcd) (pa_cons (pe_cls h) pa_nil)) (by decide) (by decide)).imp fun σ H Q ⟨ρ, Z, F, dd, ρ', s, e, q⟩ => by
    simp only [evE] at e
    obtain ⟨c, e1, e⟩ := Option.bind_eq_some_iff.mp e
    cases e
    obtain ⟨a, ev, ha, ok⟩ := s.exc e1
    refine ⟨_, ev, a, _, _, _, _, rfl, ha, ok.x, xV_cls d, kit_x ok h, ?_⟩
    have q' := kn_bl q s
    simpa using q'
def xNames (ds : List Str) (ps : List Pos) : List Expr := List.zipWith (fun d p => .Name d p) ds ps
theorem pa_xs : ∀ {ds : List Str} {ps : List Pos}, (∀ d ∈ ds, XAsk X d) → ds.length = ps.length → PA X (xNames ds ps) (fun σ H Q => Q (ds.map (xV X.K)) H)
  | [], [], _, _ => pa_nil
  | [], _ :: _, _, h => by cases h
  | _ :: _, [], _, h => by cases h
  | d :: ds, p :: ps, h, hl => (pa_cons (pe_cls (h d (List.mem_cons_self ..))) (pa_xs (fun d hd => h d (List.mem_cons_of_mem _ hd)) (Nat.succ.inj hl)) rfl).imp fun σ H Q q => q
theorem s_isxT {x : Str} {ds : List Str} {ps : List Pos} {xp p p2 : Pos} {n : Nat} (hN : X.N[i]? = some x) (hv : Vis X.env.scope x) (hd : (x == ("__debug__" : Str)) = false) (hcd : (x == ("__classdict__" : Str)) = false) (hg : Gl X "isinstance") (hm : X.mg "isinstance" = none) (h : ∀ d ∈ ds, XAsk X d) (hl : ds.length = ps.length) (hz : ds.length ≤ 1000) :
    PE X (.Call (.Name "isinstance" p) [.Name x xp, .Tuple (xNames ds ps) n p2] [] pos) (spE X.K B C G (.isx i ds) k) :=
  (pe_callB call_isXT hg hm (by decide +kernel) (pa_cons (pe_var hN hv hd hcd) (pa_cons (pe_tup (pa_xs h hl)) pa_nil)) (by decide) (by decide)).imp fun σ H Q ⟨ρ, Z, F, dd, ρ', s, e, q⟩ => by
    simp only [evE] at e
    obtain ⟨c, e1, e⟩ := Option.bind_eq_some_iff.mp e
    cases e
    obtain ⟨a, ev, ha, ok⟩ := s.exc e1
    refine ⟨_, ev, by rw [List.length_map]; exact Nat.le_trans hz (by decide), fun tp np => ?_⟩
    have hp : ∀ ds : List Str, Paired ClsV (ds.map (xV X.K)) (ds.map (xU X.K)) := fun ds => by
      induction ds with
      | nil => exact .nil
      | cons t ts ih => exact .cons (xV_cls t) ih
    refine ⟨a, _, tp, _, _, _, rfl, by rw [keep_upd np _ _ ha], ok.x, upd_same, hp ds, kit_xs ok h, ?_⟩
    have g : Good (upd H tp (.tup (ds.map (xV X.K)))) := s.gd.tup (by rw [List.length_map]; exact Nat.le_trans hz (by decide))
    have s3 : SR X.K B σ _ (upd H tp (.tup (ds.map (xV X.K)))) Z F := s.more (keep_upd np) (fun _ z => z) s.nz (fun a z => let ⟨o, e⟩ := s.zt a z; ⟨o, keep_upd np _ _ e⟩) g
    exact kn_bl (q.pre (Ps.new np)) s3
theorem t_xnon {x : Str} {xp p2 : Pos} {j} (hN : X.N[i]? = some x) (hv : Vis X.env.scope x) (hd : (x == ("__debug__" : Str)) = false) (hcd : (x == ("__classdict__" : Str)) = false) :
    PT X (.Compare (.Name x xp) [.Is] [.Constant .none j p2] pos) (spT X.K B (evE C G (.xnon i))) :=
  (pt_cmpR op_isN (pe_var hN hv hd hcd) pe_non rfl).imp fun σ H Q ⟨ρ, Z, F, bb, ρ', s, e, q⟩ => by
    simp only [evE] at e
    have h := s.sl i
    cases hs : slot ρ i with
    | exc c =>
      rw [hs] at e h
      cases e
      obtain ⟨⟨a, ev, _⟩, _⟩ := h
      exact ⟨_, ev, rfl, _, rfl, q H Z F s Ps.refl⟩
    | val d =>
      rw [hs] at e h
      cases e
      obtain ⟨v, ev, f, t⟩ := h
      refine ⟨_, ev, rfl, _, rfl, ?_⟩
      rw [isNon_iff (ow_zero.2 ⟨f, t⟩)]
      exact q H Z F s Ps.refl
    | un => rw [hs] at e; cases e
    | own k d => rw [hs] at e; cases e
    | io k d => rw [hs] at e; cases e
    | scr d => rw [hs] at e; cases e
theorem s_xnon {x : Str} {xp p2 : Pos} {j} (hN : X.N[i]? = some x) (hv : Vis X.env.scope x) (hd : (x == ("__debug__" : Str)) = false) (hcd : (x == ("__classdict__" : Str)) = false) :
    PE X (.Compare (.Name x xp) [.Is] [.Constant .none j p2] pos) (spE X.K B C G (.xnon i) k) :=
  (pe_cmpR op_isN (pe_var hN hv hd hcd) pe_non rfl).imp fun σ H Q ⟨ρ, Z, F, dd, ρ', s, e, q⟩ => by
    simp only [evE] at e
    have h := s.sl i
    cases hs : slot ρ i with
    | exc c =>
      rw [hs] at e h
      cases e
      obtain ⟨⟨a, ev, _⟩, _⟩ := h
      refine ⟨_, ev, rfl, ?_⟩
      exact kn_bl q s
    | val d =>
      rw [hs] at e h
      cases e
      obtain ⟨v, ev, f, t⟩ := h
      refine ⟨_, ev, rfl, ?_⟩
      rw [isNon_iff (ow_zero.2 ⟨f, t⟩)]
      exact kn_bl q s
    | un => rw [hs] at e; cases e
    | own k d => rw [hs] at e; cases e
    | io k d => rw [hs] at e; cases e
    | scr d => rw [hs] at e; cases e
end
end
end BW

/-! BwX8: refusals: what lets them out. -/
namespace BW
noncomputable section
open PySem PySem.Spec PyProof.Rows L2
/-- a call's end: an exception -/
def CRx (outer : List PySem.Env) (P : Program) (w : World) (H : Hp) (s : Shared) (E : XK) : Result → Shared → Prop
  | .error e, s' => L2.CX P w outer H s E e s'
  | _, _ => False
abbrev SpR := List V → Hp → XK → Prop
structure GRn (P : Program) (w : World) (K : PySem.W.Frag) (mg : Str → Option Value) (base : Heap) (k : Nat) (f : Addr) (fd : FuncData) (ps : List Str) (sp : SpR) : Prop where
  len : ∀ vs H E, sp vs H E → vs.length = ps.length
  run : ∀ (A : Around) (outer : List PySem.Env) (s : Shared) (H : Hp) (args : Args) (us : List Value) (vs : List V) (E : XK), GRoom k A → Env0 P w K mg base A outer s H →
    BindsTo s fd args (ps.zip us) → Vals vs us → sp vs H E → codeAny (model P w) A (.call (.ref f) args) (CRx outer P w H s E) s
section
variable {X : Cx} {k : Nat} {f : Addr} {fd : FuncData} {ps : List Str} {sp : SpR} {W : WX}
theorem call_rn {pins : List (Addr × Obj)} {σ : L2.St} {H : Hp} {s : Shared} {Q : Value → Shared → Prop} {us : List Value} {vs : List V} (g : GRn X.prog X.w X.K X.mg X.base k f fd ps sp) (room : GRoom k X.A) (bi : Binds X.K fd ps []) (tk : Takes X W) (inv : Inv X pins σ H s) (rel : Vals vs us) (h : sp vs H (WE W σ)) :
    wpAny (model X.prog X.w) X.A (call (.ref f) us) Q X.xe s := by
  have n1 : us.length = ps.length := rel.length.symm.trans (g.len _ _ _ h)
  have b1 : BindsTo s fd ⟨us, []⟩ (ps.zip us) := by
    have b0 := bi s us inv.kIn (by rw [List.append_nil]; exact n1)
    rwa [List.append_nil] at b0
  refine wpAny_call (codeAny_mono (g.run X.A X.stack s H ⟨us, []⟩ us vs (WE W σ) room inv.env0 b1 rel h) ?_)
  intro r s' hr
  match r, hr with
  | .error e, hr => exact passAt tk σ pins H s e s' inv hr
theorem r_call {x : Str} {p pos : Pos} {e : Expr} {es : List Expr} {t : TA} (g : GRn X.prog X.w X.K X.mg X.base k f fd ps sp) (room : GRoom k X.A) (gl : Gl X x) (hm : X.mg x = some (.ref f)) (kp : PySem.W.keepIn X.K (.ref f) = true) (bi : Binds X.K fd ps []) (tk : Takes X W)
    (ha : PA X (e :: es) t) (nd : (x == ("__debug__" : Str)) = false) (st : starEach (e :: es) X.env = (false, eval e X.env) :: starEach es X.env) (pl : (backTo pos (starEach es X.env)).any (·.1) = false) :
    PE X (.Call (.Name x p) (e :: es) [] pos) (fun σ H _ => t σ H fun vs H1 => sp vs H1 (WE W σ)) := by
  constructor
  intro pins s σ H Q inv q
  refine wpAny_Call_Name_kw (ld_glob inv gl hm (PySem.W.callWith_K (h₀ := X.base) inv.ok.mod.kin kp ?_ st pl) nd)
  refine thn (ha.run pos pins s σ H _ inv q) ?_
  rintro us s1 ⟨vs, H1, inv1, rel, q1⟩
  exact ⟨inv1.kIn, call_rn g room bi tk inv1 rel q1⟩
theorem r_call0 {x : Str} {p pos : Pos} (g : GRn X.prog X.w X.K X.mg X.base k f fd ps sp) (room : GRoom k X.A) (gl : Gl X x) (hm : X.mg x = some (.ref f)) (kp : PySem.W.keepIn X.K (.ref f) = true) (bi : Binds X.K fd ps []) (tk : Takes X W)
    (nd : (x == ("__debug__" : Str)) = false) : PE X (.Call (.Name x p) [] [] pos) (fun σ H _ => sp [] H (WE W σ)) := by
  constructor
  intro pins s σ H Q inv q
  exact wpAny_Call_Name_kw (ld_glob inv gl hm (PySem.W.callWith_K0 inv.kIn kp (call_rn (us := []) g room bi tk inv .nil q)) nd)
end
/-- a def that refuses, by its body -/
theorem grn_of {P : Program} {w : World} {K : PySem.W.Frag} {mg : Str → Option Value} {base : Heap} {k : Nat} {f : Addr} {x qual : Str} {st : Stmt} {fd : FuncData} {N ps : List Str} {sp : SpR} (fu : Fun K x qual st f fd) (sc : FnScope N ps (defScope st))
    (len : ∀ vs H E, sp vs H E → vs.length = ps.length)
    (body : ∀ (cdv : Value) (A : Around) (outer : List PySem.Env) (s : Shared) (H : Hp) (vs : List V) (E : XK), GRoom k (A.deeper (envOfC qual (defScope st) s.heap.objs.size f cdv)) → sp vs H E →
      ∃ t, PSs (cxOf (L2.CX P w) P w K mg base N qual (defScope st) f cdv A outer s H E) (defBody st) t ∧ t { nx := fun _ _ => False, rt := fun _ _ => False } (start N vs) H) : GRn P w K mg base (k + 1) f fd ps sp := by
  obtain ⟨oc, od, kV, doc, pm, an, cdv, ct, osl, rfl, lk, hc⟩ := fu.ex
  constructor
  · exact len
  · intro A outer s H args us vs E room e0 bi rel hsp
    have kin : K.In s.heap := e0.mod.kin.keeps fun b o e => (e0.bs b o e).1
    have lim : s.heap.NoLimit := e0.mod.nolimit.keeps fun b o e => (e0.bs b o e).1
    have kinds : ∀ y ∈ ps.zip us, (defScope st).names.lookup y.1 = some .local ∨ ((defScope st).names.lookup y.1 = some .cell ∧ ((cellsFrom (s.heap.objs.size + 1) (defScope st).names []).lookup y.1).isSome = true) := by
      intro y hy
      rcases sc.par y.1 (List.of_mem_zip (a := y.1) (b := y.2) hy).1 with h | h
      · exact .inl h
      · exact .inr ⟨h, PySem.W.cellsFrom_some _ _ _ (.inl h)⟩
    refine codeAny_call_function room.room.depth (kin _ _ lk) rfl sc.co sc.gen rfl (PySem.W.codeRec_of kin hc) (bi _ _ _ _ (wpAny_newFunctionEnv_cells sc.kind kinds ?_))
    intro env he s1 inc
    subst he
    refine ⟨lim.keeps inc.toInCall.keep, codeAny_func ?_⟩
    obtain ⟨t, ht, q⟩ := body cdv A outer s H vs E (room.deeper _) hsp
    have inv := inv_start (CX := L2.CX P w) (P := P) (mg := mg) (base := base) (E := E) (qual := qual) (f := f) (cd := cdv) sc room.room.hd e0 (len _ _ _ hsp) rel inc
    refine wpAny_mono (ht.run [] s1 (start N vs) H _ inv q) (fun fl s' hs => ?_) (fun e s' hs => ?_)
    · match fl, hs with
      | .ret u, ⟨v, σ', H', J, rv, qq⟩ => exact qq.elim
      | .next, ⟨σ', H', J, qq⟩ => exact qq.elim
      | .brk, ⟨_, _, _, qq⟩ => exact qq.elim
      | .cont, ⟨_, _, _, qq⟩ => exact qq.elim
    · exact hs
/-- a def's refusal by the evaluation -/
def spRs (K : PySem.W.Frag) (T : Tab) (G : Nat → D) (n f : Nat) : SpR := fun vs H E => ∃ rs Z F c, SR K (bOf vs) (vs.map some) rs H Z F ∧ rclO (callN T G n (f + rsK) rs) = some c ∧
  ∀ H' Z', SR K (bOf vs) (vs.map some) (rs.map fun _ => .un) H' Z' (fun _ _ => False) → Ps H Z F H' Z' (fun _ _ => False) → XOk K c → E (.ref (He.ga K c)) none H'
/-- a part that refuses -/
def rpS (K : PySem.W.Frag) (B : Bk) (W : WX) (f : Env → Option (Str × Env)) : L2.St → Hp → Prop := fun σ H => ∃ ρ Z F c ρ', SR K B σ ρ H Z F ∧ f ρ = some (c, ρ') ∧
  ∀ σ' H' Z' F', SR K B σ' ρ' H' Z' F' → Ps H Z F H' Z' F' → XOk K c → W (.ref (He.ga K c)) none σ' H'
section
variable {X : Cx} {B : Bk} {T : Tab} {G : Nat → D} {n k kr : Nat} {pos : Pos} {W : WX} {e ec : Ex}
theorem call_rfin {f : Nat} {as : Exs} {σ : L2.St} {H : Hp} (h : rpS X.K B W (rsC (callN T G n) G f as) σ H) : spA X.K B (evA (callN T G n) G as) σ H fun vs H1 => spRs X.K T G n f vs H1 (WE W σ) := by
  obtain ⟨ρ, Z, F, c, ρ', s, e, q⟩ := h
  unfold rsC at e
  obtain ⟨⟨ars, ρ1⟩, e1, e⟩ := Option.bind_eq_some_iff.mp e
  dsimp only at e
  split at e
  · rename_i ok
    obtain ⟨rs, e2, e⟩ := Option.bind_eq_some_iff.mp e
    obtain ⟨c', e3, e⟩ := Option.bind_eq_some_iff.mp e
    cases e
    refine ⟨ρ, Z, F, ars, ρ1, s, e1, fun vs H1 Z1 F1 s1 p1 hv => ⟨rs, Z1, ioF F1 ars, _, args_sr s1 e2 hv ok, e3, fun H2 Z2 so p2 ok2 => ?_⟩⟩
    obtain ⟨F', s3, r3⟩ := after_call s1 hv ok so (⟨p2, Tm.none, fun _ z => z.elim⟩ : Rs _ _ _ _ _ _ fun _ => False)
    exact q _ _ _ _ s3 (p1.trans r3.ps) ok2
  · cases e
/-- raise X('m') -/
theorem r_rse {x m : Str} {j : Nat} {p p2 p3 pos : Pos} {C : Calls} {O : Nat → Nat} (hc : X.calm = true) (tk : Takes X W) (q : PySem.W.excIn X.K (He.ga X.K x) He.veBase "ValueError.__new__" = true) (gC : X.mg x = some (.ref (He.ga X.K x))) (kC : PySem.W.keepIn X.K (.ref (He.ga X.K x)) = true)
    (h1 : PySem.W.subIn X.K (.ref (He.ga X.K x)) (.type "BaseException") = some true) (h2 : PySem.W.typeIn X.K (.ref (He.ga X.K x)) = some (.type "type")) (ok : XOk X.K x) (hg : Gl X x) (hd : (x == ("__debug__" : Str)) = false) :
    PS X (.Raise (some (.Call (.Name x p) [.Constant (.str m) j p2] [] p3)) none pos) (fun _ => rpS X.K B W (rsS C G O (.rse x))) :=
  (ps_raise hc tk (pmk_own PySem.F.excBase_ValueError q gC kC (raises_own h1 h2) hg hd)).imp fun D σ H ⟨ρ, Z, F, c, ρ', s, e, q⟩ => by
    simp only [rsS] at e
    cases e
    exact q σ H Z F s Ps.refl ok
variable {g : Env → Option (Str × Env)} {C : Calls} {O : Nat → Nat}
theorem r_asg {i : Nat} {y : Str} {yp : Pos} {ex : Expr} (hN : X.N.Nodup) (hi : X.N[i]? = some y) (hx : Loc X.env.scope y) (hf : X.fn y = true ∨ X.env.scope.names.lookup y = some .local) (he : PE X ex (fun σ H _ => rpS X.K B W g σ H)) (hs : swapsWith ex (some (.Name y yp)) pos.line X.env = pure false) :
    PS X (.Assign [.Name y yp] ex pos) (fun _ => rpS X.K B W g) := (ps_set hN hi hx he hs hf).imp fun D σ H h => h
theorem r_asgT {es : List Expr} {kk : Nat} {pt : Pos} {ex : Expr} {t : TG} (he : PE X ex (fun σ H _ => rpS X.K B W g σ H)) (hg : PG X (.Tuple es kk pt) t) (hs : swapsWithSole [.Tuple es kk pt] ex pos.line X.env = pure false) (hw : swappedStores [.Tuple es kk pt] ex X.env = pure none) :
    PS X (.Assign [.Tuple es kk pt] ex pos) (fun _ => rpS X.K B W g) := (ps_asg he hg hs hw).imp fun D σ H h => h
theorem r_expr {ex : Expr} (he : PE X ex (fun σ H _ => rpS X.K B W g σ H)) (hs : swapsWith ex none pos.line X.env = pure false) : PS X (.Expr ex pos) (fun _ => rpS X.K B W g) := (ps_expr he hs).imp fun D σ H h => h
theorem r_ret {ex : Expr} (he : PE X ex (fun σ H _ => rpS X.K B W g σ H)) : PS X (.Return (some ex) pos) (fun _ => rpS X.K B W g) := (ps_ret he).imp fun D σ H h => h
theorem r_none {st : Stmt} (h : ∀ ρ, g ρ = none) : PS X st (fun _ => rpS X.K B W g) := ⟨fun pins s σ H D I ⟨ρ, Z, F, c, ρ', _, e, _⟩ => by rw [h] at e; cases e⟩
theorem rpS_pre {h : Env → Option (Str × Env)} {σ : L2.St} {H H' : Hp} {ρ' ρ2 : Env} {Z Z' : AS} {F F' : FS} {c : Str} (s : SR X.K B σ ρ' H' Z' F') (p : Ps H Z F H' Z' F') (e : h ρ' = some (c, ρ2))
    (q : ∀ σ' H2 Z2 F2, SR X.K B σ' ρ2 H2 Z2 F2 → Ps H Z F H2 Z2 F2 → XOk X.K c → W (.ref (He.ga X.K c)) none σ' H2) : rpS X.K B W h σ H' :=
  ⟨ρ', Z', F', c, ρ2, s, e, fun σ' H2 Z2 F2 s2 p2 ok => q σ' H2 Z2 F2 s2 (p.trans p2) ok⟩
theorem r_if {c : Expr} {a b : List Stmt} {sa sb : Sms} {ks : List Nat} (hc : PT X c (spT X.K B (evE C G ec))) (ha : PSs X a (fun _ => rpS X.K B W (rsSs C G O sa))) (hb : PSs X b (fun _ => rpS X.K B W (rsSs C G O sb))) : PS X (.If c a b pos) (fun _ => rpS X.K B W (rsS C G O (.ite ec sa sb ks))) :=
  (ps_if hc ha hb).imp fun Dn σ H ⟨ρ, Z, F, cl, ρ', s, ev, fin⟩ => by
    simp only [rsS] at ev
    obtain ⟨⟨d, ρ1⟩, e1, ev⟩ := Option.bind_eq_some_iff.mp ev
    obtain ⟨z, e2, ev⟩ := Option.bind_eq_some_iff.mp ev
    cases d <;> cases e2
    refine ⟨ρ, Z, F, z, ρ1, s, e1, fun H' Z' F' s' p => ?_⟩
    cases z with
    | true =>
      simp only [if_true] at ev
      exact iteT (rpS_pre s' p ev fin)
    | false =>
      simp only [Bool.false_eq_true, if_false] at ev
      exact iteF (rpS_pre s' p ev fin)
theorem r_cons {st : Stmt} {rest : List Stmt} {s : Sm} {ss : Sms} {u : TS} (h1 : PS X st (spS X.K B kr (evS C G O s))) (h1' : PS X st (fun _ => rpS X.K B W (rsS C G O s))) (h2 : PSs X rest u) (h2' : PSs X rest (fun _ => rpS X.K B W (rsSs C G O ss))) :
    PSs X (st :: rest) (fun _ => rpS X.K B W (rsSs C G O (.cons s ss))) := by
  refine ⟨fun pins sh σ H D I ⟨ρ, Z, F, cl, ρ', sr, ev, fin⟩ => ?_⟩
  simp only [rsSs] at ev
  cases e1 : evS C G O s ρ with
  | none =>
    rw [e1] at ev
    exact (pss_cons h1' h2).run pins sh σ H D I ⟨ρ, Z, F, cl, ρ', sr, ev, fin⟩
  | some r =>
    rw [e1] at ev
    cases r with
    | nx ρ1 => exact (pss_cons h1 h2').run pins sh σ H D I ⟨ρ, Z, F, _, sr, e1, fun σ' H' Z' F' s' p => rpS_pre s' p ev fin⟩
    | rt d ρ1 => cases ev
    | bk ρ1 => cases ev
    | ct ρ1 => cases ev
theorem r_nil : PSs X [] (fun _ => rpS X.K B W (rsSs C G O .nil)) := ⟨fun pins sh σ H D I ⟨ρ, Z, F, cl, ρ', sr, ev, fin⟩ => by simp only [rsSs] at ev; cases ev⟩
theorem r_comp {elt tg iter : Expr} {ifs : List Expr} {scope : Scope} {own : List (Str × Nat)} {gg : TG} {tt : TT} {te : TE} (hc : X.calm = true) (hN : X.N.Nodup) (hi : PE X iter (fun σ H _ => rpS X.K B W g σ H)) (ok : BlkOk X.N X.env.scope scope own)
    (hg : ∀ (s : Shared) (H : Hp) (A : Addr) (cl : List (Str × Addr)) (fp : List Addr), PG (X.blk s H scope (compEnvC scope cl A X.env) fp) tg gg) (ht : ∀ (s : Shared) (H : Hp) (A : Addr) (cl : List (Str × Addr)) (fp : List Addr), PTs (X.blk s H scope (compEnvC scope cl A X.env) fp) ifs tt)
    (he : ∀ (s : Shared) (H : Hp) (A : Addr) (cl : List (Str × Addr)) (fp : List Addr), PE (X.blk s H scope (compEnvC scope cl A X.env) fp) elt te) (hs : ∀ x, foldedSetIterable iter X.env x = pure x) :
    PE X (.ListComp elt [⟨tg, iter, ifs, 0⟩] scope pos) (fun σ H _ => rpS X.K B W g σ H) :=
  (pe_lc hc hN (pi_list hi) ok hg ht he hs).imp fun σ H Q h => h
/-! ### try -/
theorem excR_some {ρ ρ2 : Env} {i j : Nat} {c : Str} (h : excR ρ i j c = some ρ2) : slot ρ i = .un ∧ (slot ρ j = .un ∨ ∃ d, slot ρ j = .val d) ∧ i < ρ.length ∧ j < ρ.length ∧ i ≠ j ∧ ρ2 = ρ.set j (.exc c) := by
  unfold excR at h
  split at h
  · rename_i h1 h2
    split at h
    · rename_i h3
      cases h
      exact ⟨h1, .inl h2, h3.1, h3.2.1, h3.2.2, rfl⟩
    · cases h
  · rename_i d h1 h2
    split at h
    · rename_i h3
      cases h
      exact ⟨h1, .inr ⟨_, h2⟩, h3.1, h3.2.1, h3.2.2, rfl⟩
    · cases h
  · cases h
theorem sr_exc {K : PySem.W.Frag} {σ : L2.St} {H : Hp} {ρ ρ2 : Env} {Z : AS} {F : FS} {i j : Nat} {c : Str} {a : Addr} (s : SR K B σ ρ H Z F) (h : excR ρ i j c = some ρ2) (na : H a = none) (ok : XOk K c) :
    SR K B (((σ.set i (some (.ref a))).set j (some (.ref a))).set i none) ρ2 (upd H a (ExC (.ref (He.ga K c)) a)) Z F := by
  obtain ⟨h1, h2, h3, h4, h5, rfl⟩ := excR_some h
  have kp := keep_upd (o := ExC (.ref (He.ga K c)) a) na
  have hj : ∀ b, ¬ F j b := by
    have q := s.sl j
    rcases h2 with e | ⟨d, e⟩
    · rw [e] at q; exact q
    · rw [e] at q; obtain ⟨_, _, _, t⟩ := q; exact t
  have hi : ∀ b, ¬ F i b := by
    have q := s.sl i
    rw [h1] at q
    exact q
  have hl := s.len
  refine ⟨by simp only [List.length_set]; exact s.len, fun k => ?_, s.dj, s.nz, fun k b z => ?_, fun b z => ?_, s.gd.upd fun xs e => ?_⟩
  · rw [slot_set]
    by_cases ej : j = k
    · subst ej
      rw [if_pos rfl, if_pos h4]
      refine ⟨⟨a, ?_, upd_same, ok⟩, hj⟩
      rw [List.getElem?_set_ne h5, List.getElem?_set_self (by rw [List.length_set]; omega)]
    · rw [if_neg ej]
      by_cases ei : i = k
      · subst ei
        rw [h1]
        exact hi
      · rw [List.getElem?_set_ne ei, List.getElem?_set_ne ej, List.getElem?_set_ne ei]
        exact (s.sl k).mono (fun _ z => z) fun b o e _ => kp b o e
  · obtain ⟨vs, e⟩ := s.mu k b z
    exact ⟨vs, kp _ _ e⟩
  · obtain ⟨o, e⟩ := s.zt b z
    exact ⟨o, kp _ _ e⟩
  · rcases e with e | e | ⟨_, e | e⟩ <;> cases e
theorem s_trx {x m y : Str} {i j : Nat} {body : List Stmt} {b : Sms} {np yp np2 ap pos' : Pos} (hs : X.stack = X.env :: X.outer) (hf : X.env.frame = some X.env.locals) (hex : X.ex = []) (hN : X.N.Nodup) (hi : X.N[i]? = some m) (hln : X.env.kindOf m = some .local) (hc : Names X x (.ref (He.ga X.K x)))
    (hx : x ∈ xcls) (hk : PySem.W.nsIn X.K mainGlobals x = some (some (.ref (He.ga X.K x)))) (hj : X.N[j]? = some y) (hy : Loc X.env.scope y) (hyf : X.fn y = true ∨ X.env.scope.names.lookup y = some .local) (nd : (m == ("__debug__" : Str)) = false) (ncd : (m == ("__classdict__" : Str)) = false)
    (h1 : PSs X.nox body (spS X.K B kr (evSs C G O b)))
    (hb : ∀ (W : WX) (pn : List (Addr × Obj)) (xe : Value → Shared → Prop), Takes (X.tr pn xe) W → PassesOwn (model X.prog X.w) X.A X.env xe → PSs (X.tr pn xe) body (fun _ => rpS X.K B W (rsSs C G O b))) :
    PS X (.Try body [.ExceptHandler (some (.Name x np)) (some m) [.Assign [.Name y yp] (.Name m np2) ap] pos'] [] [] pos) (spS X.K B kr (evS C G O (.trx b x i j))) := by
  refine ⟨fun pins sh σ H D I ⟨ρ, Z, F, r, sr, ev, fin⟩ => ?_⟩
  simp only [evS] at ev
  cases e1 : evSs C G O b ρ with
  | some r1 =>
    rw [e1] at ev
    cases ev
    exact (ps_try_thru0 h1).run pins sh σ H D I ⟨ρ, Z, F, _, sr, e1, fin⟩
  | none =>
    rw [e1] at ev
    obtain ⟨⟨c, ρ1⟩, e2, ev⟩ := Option.bind_eq_some_iff.mp ev
    dsimp only at ev
    split at ev
    · rename_i hsub
      obtain ⟨ρ2, e3, ev⟩ := Option.bind_eq_some_iff.mp ev
      cases ev
      have hil : i < X.N.length := (List.getElem?_eq_some_iff.mp hi).1
      refine (ps_try_set (tb := fun W D σ H => rpS X.K B W (rsSs C G O b) σ H) hs hf hex hN hi hln hc hil hj hy hyf nd ncd hb).run pins sh σ H D I ?_
      refine ⟨ρ, Z, F, c, ρ1, sr, e2, fun σ' H' Z' F' s' p ok => ⟨rfl, ?_, fun a na => ?_⟩⟩
      · rw [(ok.kit x hx hk).2, hsub]
      · exact fin _ _ _ _ (sr_exc s' e3 na ok) (p.trans (Ps.new na))
    · cases ev
end
end
end BW

/-! BwX9: set(tuple of tuples of numbers). -/
namespace BW
noncomputable section
open PySem PySem.Spec PyProof.Rows L2
section
variable {P : Program} {w : World} {A : Around} {s : Shared} {E : Value → Shared → Prop}
theorem nq1 {t z z1 : Nat} (h : t < z) (e : z1 = z + 1) : t ≠ z1 := by omega
theorem nq2 {t z z1 : Nat} (h : t < z) (e : z1 = z + 1) : z ∉ [z1, t] := by simp only [List.mem_cons, List.not_mem_nil, or_false, not_or]; omega
theorem nq3 {b z : Nat} (h : b < z) (k : z ≤ b) : False := by omega
theorem nq4 {b z z1 : Nat} (h : b = z1) (e : z1 = z + 1) : z ≤ b := by omega
/-- a set at its birth -/
abbrev setNil (w : World) : Obj := { cls := .type "set", dict := none, data := .set #[] 0 (.fresh 0 0 (!w.params.followText "set-order")) }
theorem call_setTup {t : Addr} {its : Array Value} {Q : Value → Shared → Prop} (ks : List (Addr × List Int)) (nh : A.handled = none) (tup : s.heap.IsTuple t its) (refs : its.toList = ks.map fun p => Value.ref p.1) (isT : ∀ p ∈ ks, IsT P w s.heap p.2 p.1) (few : ks.length < 64) (room : A.units + 3 < cLine)
    (fin : ∀ (g : Heap) (tk : Nat) L es ep tb, SetTR P w g s.heap.objs.size L es ep tb → Got ks ks.length L → (∀ b o, s.heap.get? b = some o → g.get? b = some o) → Q (.ref s.heap.objs.size) { s with heap := g, toks := tk }) :
    wpAny (model P w) A (call (.type "set") [.ref t]) Q E s := by
  have nits : its.size = ks.length := by rw [← Array.length_toList, refs, List.length_map]
  obtain ⟨cm, tm, mro⟩ := PySem.F.called_set.mro
  have m1 := PySem.F.called_set.made; have m2 := PySem.F.called_set.sub; have m3 := PySem.F.called_set.notType; have m4 := PySem.F.called_set.canCreate
  have m5 := PySem.F.typeCall_set_1 (.ref t)
  refine wpAny_call (codeAny_of_tree (wpAny_pure ⟨Code.quiet_builtin _ (by decide +kernel), codeAny_builtin PySem.F.entry_type_call ?_⟩))
  rw [Around.under_plain (weight_type_call_type "set" [.ref t] []) rfl]
  repeat any_goals (first | assumption | wp_step)
  refine codeAny_mono (code_set_led1 (.ref t) (E := E) (Q₁ := fun x u => x = .ref s.heap.objs.size ∧ u = { s with heap := s.heap.push (setNil w) }) ⟨rfl, rfl⟩) fun r u hr => ?_
  match r, hr with
  | .error e, hr => exact hr
  | .ok (.ret x), hr =>
    obtain ⟨rfl, rfl⟩ := hr
    have at0 : (s.heap.push (setNil w)).get? s.heap.objs.size = some (setNil w) := Heap.get?_push_size _ rfl
    have ty0 : Shared.TypeIs { s with heap := s.heap.push (setNil w) } (.ref s.heap.objs.size) "set" := ⟨_, at0, rfl⟩
    have m6 := PySem.F.called_set.init.lookup
    have m7 := PySem.F.called_set.init.bind (.ref s.heap.objs.size)
    repeat any_goals (first | assumption | wp_step)
    refine codeAny_mono (codeAny_call_builtin (R := wants (fun y u => y = .none ∧ ∃ g tk L es ep tb, u = { s with heap := g, toks := tk } ∧ SetTR P w g s.heap.objs.size L es ep tb ∧ Got ks ks.length L ∧ ∀ b o, s.heap.get? b = some o → g.get? b = some o) E) PySem.F.called_set.init.plain PySem.F.entry_set_init (check_set_init_1 ty0 ?_)) fun r2 u2 hr2 => ?_
    · have tup0 := tup
      obtain ⟨⟨oc, od, odat, osl⟩, ot, oc1, nt, od1⟩ := tup
      simp only at oc1 od1
      subst oc1 od1
      have ot1 : (s.heap.push (setNil w)).get? t = some { cls := .type "tuple", dict := od, data := .seq its nt, slots := osl } := Heap.get?_push_of_some _ ot
      have tup1 : (s.heap.push (setNil w)).IsTuple t its := ⟨_, ot1, rfl, nt, rfl⟩
      have f1 := PySem.F.sub_tuple_set; have f2 := PySem.F.sub_tuple_frozenset
      have f3 : (Value.type "tuple" == Value.type "dict") = false := rfl
      unfold Builtin.«set.__init__» noKeywords Builtin.Frozenset.updateFrom
      generalize eI : pyIter = itf
      wp_walk
      subst eI
      refine wpAny_pyIter_tuple tup1 (wpAny_bind (wpAny_runValue ?_))
      have lt0 : t < s.heap.objs.size := Heap.lt_size ot
      have nh3 : A.in1.in1.in1.handled = none := by simp [nh]
      have sz1 : (s.heap.push (setNil w)).objs.size = s.heap.objs.size + 1 := Heap.size_push ..
      have new0 : ∀ b, s.heap.objs.size ≤ b → s.heap.get? b = none := fun b hb => by
        cases q : s.heap.get? b with
        | none => rfl
        | some o => exact (nq3 (Heap.lt_size q) hb).elim
      refine set_update_tups ((Walks.tuple nh3 _ t (nq1 lt0 sz1) its).toS) s.heap.objs.size (nq2 lt0 sz1) ks nits few ?_ s.heap isT (new0 _ (Nat.le_refl _)) (fun b hb => new0 b ?_) room (its.size - 0) 0 _ (by omega) (Nat.zero_le _) ⟨⟨_, Heap.get?_push_size _ rfl, rfl, rfl⟩, tup1.push _⟩ (fun b o e => Heap.get?_push_of_some _ (Heap.get?_push_of_some _ e)) ?_ ?_
      · intro i v hv
        have hi : its.toList[i]? = some v := by rwa [Array.getElem?_toList]
        rw [refs, List.getElem?_map] at hi
        obtain ⟨p, hp, e⟩ := Option.map_eq_some_iff.mp hi
        exact ⟨p, hp, e.symm⟩
      · exact nq4 (List.mem_singleton.mp hb) sz1
      · exact ⟨[], #[], 0, _, setTR_fresh (w := w) (show Heap.get? _ s.heap.objs.size = some (setNil w) from Heap.get?_push_of_some _ at0), Got.zero ks⟩
      · rintro ⟨g, g2, d2, tk2, os2⟩ L es ep tb mv R2 got kp
        have e1 : g2 = s.gens := mv.gens
        have e2 : d2 = s.drawn := mv.drawn
        have e3 : os2 = s.os := mv.os
        subst e1 e2 e3
        rw [nits] at got
        exact wpAny_pure (wpAny_pure ⟨rfl, g, tk2, L, es, ep, tb, rfl, R2, got, kp⟩)
    · match r2, hr2 with
      | .error e, hr2 => exact hr2
      | .ok (.ret y), hr2 =>
        obtain ⟨rfl, g, tk, L, es, ep, tb, rfl, R2, got, kp⟩ := hr2
        repeat any_goals (first | assumption | wp_step)
        exact fin _ _ _ _ _ _ R2 got kp
end
section
variable {X : Cx} {B : Bk} {C : Calls} {G : Nat → D} {k : Nat} {pos : Pos} {ea eo : Ex} {a o : Expr}
def tLenSetE (K : PySem.W.Frag) (ta : TE) : TE := fun σ H Q => ta σ H fun x H1 => ∃ l : Addr, x = V.ref l ∧
  ((∃ ns : List Int, SqL K H1 l (ns.map V.int) ∧ ns.length < 4000 ∧ Q (.int (dcnt ns : Nat)) H1) ∨
   (∃ ks : List (Addr × List Int), SqL K H1 l (ks.map fun p => V.ref p.1) ∧ (∀ p ∈ ks, SqT K H1 p.1 (p.2.map V.int)) ∧ ks.length < 64 ∧ Q (.int (dcnt (ks.map (·.2)) : Nat)) H1) ∨
   (∃ ks : List (Addr × List Int), SqT K H1 l (ks.map fun p => V.ref p.1) ∧ (∀ p ∈ ks, SqT K H1 p.1 (p.2.map V.int)) ∧ ks.length < 64 ∧ Q (.int (dcnt (ks.map (·.2)) : Nat)) H1))
theorem got_len {P : Program} {w : World} {h : Heap} {S : Addr} {ks L : List (Addr × List Int)} {es : Array (Int × Value)} {ep : Nat} {tb : SetTable} (R : SetTR P w h S L es ep tb) (g : Got ks ks.length L) : L.length = dcnt (ks.map (·.2)) := by
  have := dcnt_of (ks.map (·.2)) (L.map (·.2)) R.nd fun y => by
    constructor
    · intro hy
      obtain ⟨p, hp, rfl⟩ := List.mem_map.mp hy
      exact List.mem_map.mpr ⟨p, List.mem_of_mem_take (g.sub p hp), rfl⟩
    · intro hy
      obtain ⟨p, hp, rfl⟩ := List.mem_map.mp hy
      exact g.all p (by rw [List.take_length]; exact hp)
  rwa [List.length_map] at this
theorem pe_lenSetE {ta : TE} {p p2 q : Pos} (hu : X.A.units + 65 < cLine) (hc : X.calm = true) (hg : Gl X "len") (hm : X.mg "len" = none) (hg2 : Gl X "set") (hm2 : X.mg "set" = none) (ha : PE X a ta)
    (na : starEach [a] X.env = (false, eval a X.env) :: starEach [] X.env) : PE X (.Call (.Name "len" p) [.Call (.Name "set" p2) [a] [] q] [] pos) (tLenSetE X.K ta) := by
  refine ⟨fun pins s σ H Q I h => ?_⟩
  refine Call_ (ld_blt I hg hm PySem.boot_len ?_)
  refine PyProof.Rows.callWith_builtin1 (PyProof.Rows.args_cons ?_ rfl) rfl rfl
  refine Call_ (ld_blt I hg2 hm2 PyProof.Rows.boot_set ?_)
  refine PyProof.Rows.callWith_type1 (PyProof.Rows.args_cons (thn (ha.run pins s σ H _ I h) fun v s1 ⟨x, H1, I1, r1, q1⟩ => PyProof.Rows.args_nil ?_) na) na rfl
  obtain ⟨l, rfl, q1⟩ := q1
  cases r1
  rcases q1 with ⟨ns, hq, h1, q1⟩ | ⟨ks, hq, hk, h1, q1⟩ | ⟨ks, hq, hk, h1, q1⟩
  · obtain ⟨its, r, pl, hz⟩ := I1.list hq
    have hl : its.toArray.size = ns.length := by rw [List.size_toArray, ← r.length, List.length_map]
    refine call_set_list (I1.ok.hd hc) pl.isList (ns := ns) (by simpa using r.ints) (by unfold scanBound; omega) fun h' tk hS hk => ?_
    rw [hl, first_len] at hS
    refine PyProof.Rows.args_nil ?_
    obtain ⟨o, es, ep, t, ho, hex, hd, _, _, _, hf, hn⟩ := hS
    have I2 : Inv X pins σ H1 { s1 with heap := h', toks := tk } := I1.kept fun b o e => hk b o (Heap.lt_size e) e
    have hle : dcnt ns ≤ ns.length := dcnt_le ns
    refine call_len_set ho hex hd hf (by rw [hn] <;> omega) ⟨.int (dcnt ns : Nat), H1, I2.tok _, ⟨_, by rw [hn]⟩, q1⟩
  · obtain ⟨its, rv, pl, hz⟩ := I1.list hq
    refine call_set_tups (P := X.prog) (w := X.w) ks (I1.ok.hd hc) pl.isList (by simpa using refs_of_vals rv) (fun p hp => I1.isT (hk p hp)) h1 (by omega) fun h' tk L es ep t R g kp => ?_
    refine PyProof.Rows.args_nil ?_
    have hsz := SetTR.size (s := { s1 with heap := h', toks := tk }) R
    have hft := SetTR.fits (s := { s1 with heap := h', toks := tk }) R
    obtain ⟨o, ho, hex, hd⟩ := R.ob
    have I2 : Inv X pins σ H1 { s1 with heap := h', toks := tk } := I1.kept fun b o e => kp b o e
    have hn := got_len R g
    have hfew := R.few
    refine call_len_set ho hex hd hft (by rw [hsz] <;> omega) ⟨.int (dcnt (ks.map (·.2)) : Nat), H1, I2.tok _, ⟨_, by rw [hsz, hn]⟩, q1⟩
  · obtain ⟨its, rv, ⟨o, ho, hco, n, hdo⟩, hz⟩ := I1.tuple hq
    refine call_setTup (P := X.prog) (w := X.w) ks (I1.ok.hd hc) ⟨o, ho, hco, n, hdo⟩ (by simpa using refs_of_vals rv) (fun p hp => I1.isT (hk p hp)) h1 (by omega) fun h' tk L es ep t R g kp => ?_
    refine PyProof.Rows.args_nil ?_
    have hsz := SetTR.size (s := { s1 with heap := h', toks := tk }) R
    have hft := SetTR.fits (s := { s1 with heap := h', toks := tk }) R
    obtain ⟨o, ho, hex, hd⟩ := R.ob
    have I2 : Inv X pins σ H1 { s1 with heap := h', toks := tk } := I1.kept fun b o e => kp b o e
    have hn := got_len R g
    have hfew := R.few
    refine call_len_set ho hex hd hft (by rw [hsz] <;> omega) ⟨.int (dcnt (ks.map (·.2)) : Nat), H1, I2.tok _, ⟨_, by rw [hsz, hn]⟩, q1⟩
theorem s_setlen {p p2 q : Pos} (hu : X.A.units + 65 < cLine) (hc : X.calm = true) (hg : Gl X "len") (hm : X.mg "len" = none) (hg2 : Gl X "set") (hm2 : X.mg "set" = none) (ha : PE X a (spU X.K B (o1X C G ea)))
    (hs : starEach [a] X.env = (false, eval a X.env) :: starEach [] X.env) : PE X (.Call (.Name "len" p) [.Call (.Name "set" p2) [a] [] q] [] pos) (spE X.K B C G (.setlen ea) k) :=
  (pe_lenSetE hu hc hg hm hg2 hm2 ha hs).imp fun σ H Q ⟨ρ, Z, F, d, ρ', s, e, q⟩ => by
    simp only [evE] at e
    obtain ⟨⟨⟨k1, x⟩, ρ1⟩, e1, e⟩ := Option.bind_eq_some_iff.mp e
    dsimp only at e
    split at e
    case isFalse => cases e
    rename_i hx
    obtain ⟨z, e2, e⟩ := Option.bind_eq_some_iff.mp e
    cases e
    refine ⟨ρ, Z, F, (k1, x), _, s, e1, fun v H' Z' F' T s' ps w => ?_⟩
    cases x with
    | list l =>
      obtain ⟨a, vs, rfl, ha, fa⟩ := seq_of_ow w hx
      refine ⟨a, rfl, ?_⟩
      unfold setlenD at e2
      dsimp only at e2
      split at e2
      · rename_i ns en
        split at e2
        case isFalse => cases e2
        rename_i hl
        cases e2
        have := fzL_ints fa en
        subst this
        exact .inl ⟨ns, .inl (.inl ha), hl, kn_int (q.pre ps) s'⟩
      · obtain ⟨nss, en, e2⟩ := Option.bind_eq_some_iff.mp e2
        split at e2
        case isFalse => cases e2
        rename_i hl
        cases e2
        obtain ⟨ks, rfl, rfl, hk⟩ := fzL_tints fa en
        exact .inr (.inl ⟨ks, .inl (.inl ha), hk, by simpa using hl, kn_int (q.pre ps) s'⟩)
    | tuple l =>
      obtain ⟨nss, en, e2⟩ := Option.bind_eq_some_iff.mp (show ((tintsOf l).bind fun ns => if ns.length < 64 then some (PyData.int (dcnt ns : Nat)) else none) = some _ from e2)
      split at e2
      case isFalse => cases e2
      rename_i hl
      cases e2
      unfold Ow at w
      obtain ⟨⟨a, us, rfl, sq, fa⟩, _⟩ := w
      obtain ⟨ks, rfl, rfl, hk⟩ := fzL_tints fa en
      exact ⟨a, rfl, .inr (.inr ⟨ks, sq, hk, by simpa using hl, kn_int (q.pre ps) s'⟩)⟩
    | _ => cases e2
end
end
end BW

/-! BwChk1: does a text say what the small language says. -/
namespace BW
open PySem PySem.Spec PyProof.Rows L2
structure Wd where
  fns : List (Str × Nat)
  gls : List (Str × Nat)
  tbs : List (Str × Nat)
  cls : List Str
  own : Nat → Nat
/-- a refusal's text is its message alone -/
def newB (c : Str) : Bool := decide (c ≠ "NoAsk") && decide (c ≠ "BadRow")
def plainB : Expr → Bool
  | .Starred _ _ => false
  | _ => true
def ixB : Expr → Bool
  | .Slice _ _ _ _ => false
  | _ => true
def notSetB : Expr → Bool
  | .Set _ _ _ => false
  | _ => true
def notLcB : Expr → Bool
  | .ListComp _ _ _ _ => false
  | .SetComp _ _ _ _ => false
  | .DictComp _ _ _ _ _ => false
  | _ => true
def bltNames : List Str := ["len", "abs", "min", "max", "sum", "all", "any", "tuple", "list", "sorted", "int", "str", "repr", "set", "isinstance", "range", "zip", "enumerate", "bool"]
def visB (sc : Scope) (x : Str) : Bool := match sc.names.lookup x with
  | some .local => true
  | some .cell => true
  | some .free => true
  | _ => false
def glB (sc : Scope) (x : Str) : Bool := decide (sc.names.lookup x = some .globalImplicit)
def blB (sc : Scope) (x : Str) : Bool := glB sc x && decide (x ∈ bltNames)
/-- a class that isinstance is asked of -/
def xaB (cls : List Str) (sc : Scope) (d : Str) : Bool := glB sc d && !(d == ("__debug__" : Str)) && (if d = "ValueError" then !cls.isEmpty else decide (d ∈ cls))
def xsB (cls : List Str) (sc : Scope) : List Expr → List Str → Bool
  | [], [] => true
  | .Name d _ :: es, d' :: ds => decide (d = d') && xaB cls sc d && xsB cls sc es ds
  | _, _ => false
def nmB (N : List Str) (sc : Scope) (i : Nat) (x : Str) : Bool := decide (N[i]? = some x) && visB sc x && !(x == ("__debug__" : Str)) && !(x == ("__classdict__" : Str))
def allT : Str → Bool := fun _ => true
def keysB : List Str → List (Option Expr) → Bool
  | [], [] => true
  | k :: ks, some (.Constant (.str c) _ _) :: r => decide (k = c) && keysB ks r
  | _, _ => false
def dspB (ks : List Str) (keys : List (Option Expr)) (values : List Expr) : Bool := keysB ks keys && decide ks.Nodup && decide (1 ≤ ks.length) && decide (ks.length ≤ 15) && decide (values.length = ks.length)
def celB (scope : Scope) : Str → Bool := fun x => scope.names.lookup x == some .cell
def tgB (top : Str → Bool) (N : List Str) (sc : Scope) (i : Nat) (x : Str) : Bool := decide (N[i]? = some x) && (decide (sc.names.lookup x = some .local) || (top x && decide (sc.names.lookup x = some .cell)))
mutual
def chkG (top : Str → Bool) (N : List Str) (sc : Scope) : Tg → Expr → Bool
  | .var i, a => (match a with
    | .Name x _ => tgB top N sc i x
    | _ => false)
  | .tup ts, a => (match a with
    | .Tuple es _ _ => chkGs top N sc ts es
    | _ => false)
def chkGs (top : Str → Bool) (N : List Str) (sc : Scope) : Tgs → List Expr → Bool
  | .nil, l => (match l with
    | [] => true
    | _ => false)
  | .cons t ts, l => (match l with
    | e :: es => plainB e && chkG top N sc t e && chkGs top N sc ts es
    | _ => false)
end
def baB : Expr → Bool
  | .Call _ [] _ _ => false
  | _ => true
def isTup : Expr → Bool
  | .Tuple _ _ _ => true
  | _ => false
def blkB (N : List Str) (sc scope : Scope) (own : List Nat) : Bool :=
  decide (scope.kind = .function) && own.all (fun i => (N[i]?).isSome) &&
    scope.names.all fun y => decide (scope.names.lookup y.1 = some y.2) && (!decide (y.2 = .free) || decide (sc.names.lookup y.1 = some .cell) || decide (sc.names.lookup y.1 = some .free)) &&
      (!(decide (y.2 = .local) || decide (y.2 = .cell)) || own.any (fun i => decide (N[i]? = some y.1)) || !(N.any fun x => decide (x = y.1)))
def chkAt (N : List Str) (sc : Scope) : At → Expr → Bool
  | .n i, a => (match a with
    | .Constant (.int j) _ _ => decide (i = j)
    | .UnaryOp .USub (.Constant (.int j) _ _) _ => decide (i = -j)
    | _ => false)
  | .v i, a => (match a with
    | .Name x _ => nmB N sc i x
    | _ => false)
/-- a path, its last step first -/
def chkPr (N : List Str) (sc : Scope) (i : Nat) : List At → Expr → Bool
  | [], a => (match a with
    | .Name x _ => nmB N sc i x
    | _ => false)
  | x :: rp, a => (match a with
    | .Subscript b c _ => chkPr N sc i rp b && chkAt N sc x c
    | _ => false)
def chkTy (sc : Scope) (t : Ty) : Expr → Bool
  | .Name x _ => decide (x = tyN t) && blB sc x
  | _ => false
def chkTys (sc : Scope) : List Ty → List Expr → Bool
  | [], [] => true
  | t :: ts, e :: es => chkTy sc t e && chkTys sc ts es
  | _, _ => false
section
variable (W : Wd) (N : List Str)
def isNilX : Exs → Bool
  | .nil => true
  | _ => false
mutual
def chkE : Ex → Scope → Expr → Bool
  | .non, _, a => (match a with
    | .Constant .none _ _ => true
    | _ => false)
  | .bl b, _, a => (match a with
    | .Constant (.bool c) _ _ => b == c
    | _ => false)
  | .int i, _, a => (match a with
    | .Constant (.int c) _ _ => decide (i = c)
    | _ => false)
  | .str x, _, a => (match a with
    | .Constant (.str c) _ _ => decide (x = c)
    | _ => false)
  | .var i, sc, a => (match a with
    | .Name x _ => nmB N sc i x
    | _ => false)
  | .mv i _, sc, a => (match a with
    | .Name x _ => nmB N sc i x
    | _ => false)
  | .io _, _, _ => false
  | .sarg _, _, _ => false
  | .xarg _, _, _ => false
  | .isx i cs, sc, a => (match a with
    | .Call (.Name y _) [.Name x _, r] [] _ => decide (y = ("isinstance" : Str)) && blB sc y && nmB N sc i x && (match r, cs with
      | .Name d _, [d'] => decide (d = d') && xaB W.cls sc d
      | .Tuple es _ _, cs => xsB W.cls sc es cs && decide (cs.length ≤ 1000)
      | _, _ => false)
    | _ => false)
  | .xnon i, sc, a => (match a with
    | .Compare (.Name x _) [.Is] [.Constant .none _ _] _ => nmB N sc i x
    | _ => false)
  | .sidx i e, sc, a => (match a with
    | .Subscript (.Name x _) b _ => nmB N sc i x && ixB b && chkE e sc b
    | _ => false)
  | .slen i, sc, a => (match a with
    | .Call (.Name y _) [.Name x _] [] _ => decide (y = ("len" : Str)) && blB sc y && nmB N sc i x
    | _ => false)
  | .pth i p, sc, a => chkPr N sc i p.reverse a
  | .glob g, sc, a => (match a with
    | .Name x _ => glB sc x && !(x == ("__debug__" : Str)) && decide (W.gls.lookup x = some g)
    | _ => false)
  | .bin o x y, sc, a => (match a with
    | .BinOp l op r _ => decide (op = bopT o) && chkE x sc l && chkE y sc r
    | _ => false)
  | .neg x, sc, a => (match a with
    | .UnaryOp .USub l _ => chkE x sc l
    | _ => false)
  | .cmp o x y, sc, a => (match a with
    | .Compare l [op] [r] _ => decide (op = copT o) && cRight o y && notSetB r && chkE x sc l && chkE y sc r
    | _ => false)
  | .chn o o' x y z, sc, a => (match a with
    | .Compare l [op, op'] [r, t] _ => decide (op = copT o) && decide (op' = copT o') && cRight o y && cRight o' z && notSetB t && chkE x sc l && chkE y sc r && chkE z sc t
    | _ => false)
  | .and es, sc, a => (match a with
    | .BoolOp .And vs _ => chkB es sc vs
    | _ => false)
  | .or es, sc, a => (match a with
    | .BoolOp .Or vs _ => chkB es sc vs
    | _ => false)
  | .not x, sc, a => (match a with
    | .UnaryOp .Not l _ => chkE x sc l
    | _ => false)
  | .ite c x y, sc, a => (match a with
    | .IfExp c' x' y' _ => chkE c sc c' && chkE x sc x' && chkE y sc y'
    | _ => false)
  | .tup es, sc, a => (match a with
    | .Tuple l _ _ => decide (lenX es ≤ 1000) && chkL es sc l
    | _ => false)
  | .lst es, sc, a => (match a with
    | .List l _ => decide (lenX es ≤ 1000) && chkL es sc l
    | _ => false)
  | .idx x i, sc, a => (match a with
    | .Subscript l r _ => ixB r && chkE x sc l && chkE i sc r
    | _ => false)
  | .slc x lo hi, sc, a => (match a with
    | .Subscript l (.Slice p q none _) _ => chkE x sc l && chkPt lo sc p && chkPt hi sc q
    | _ => false)
  | .rev x, sc, a => (match a with
    | .Subscript l (.Slice none none (some (.UnaryOp .USub (.Constant (.int 1) _ _) _)) _) _ => chkE x sc l
    | _ => false)
  | .comp e t it cs own, sc, a => (match a with
    | .ListComp elt [⟨tg, iter, ifs, asy⟩] scope _ => decide (asy = 0) && notSetB iter && blkB N sc scope own && (varsT t).all (fun i => decide (i ∈ own)) && chkI it sc iter tg && chkG (celB scope) N (relS scope sc) t tg && chkTs cs (relS scope sc) ifs && chkE e (relS scope sc) elt
    | _ => false)
  | .call f as, sc, a => (match a with
    | .Call (.Name x _) l [] _ => glB sc x && !(x == ("__debug__" : Str)) && decide (W.fns.lookup x = some f) && chkA as sc l
    | _ => false)
  | .blt b x, sc, a => (match a with
    | .Call (.Name y _) [l] [] _ => decide (y = bltN b) && bltOk b && blB sc y && plainB l && chkE x sc l
    | _ => false)
  | .blt2 b x z, sc, a => (match a with
    | .Call (.Name y _) [l, r] [] _ => decide (y = blt2N b) && blB sc y && plainB l && plainB r && chkE x sc l && chkE z sc r
    | _ => false)
  | .lrng x, sc, a => (match a with
    | .Call (.Name y _) [.Call (.Name z _) [l] [] _] [] _ => decide (y = ("list" : Str)) && decide (z = ("range" : Str)) && blB sc y && blB sc z && plainB l && chkE x sc l
    | _ => false)
  | .trng x, sc, a => (match a with
    | .Call (.Name y _) [.Call (.Name z _) [l] [] _] [] _ => decide (y = ("tuple" : Str)) && decide (z = ("range" : Str)) && blB sc y && blB sc z && plainB l && chkE x sc l
    | _ => false)
  | .isi x ts one, sc, a => (match a with
    | .Call (.Name y _) [l, r] [] _ => decide (y = ("isinstance" : Str)) && blB sc y && plainB l && chkE x sc l && (match one, ts with
      | true, [t] => chkTy sc t r
      | false, ts => (match r with
        | .Tuple es _ _ => decide (ts.length ≤ 1000) && chkTys sc ts es
        | _ => false)
      | _, _ => false)
    | _ => false)
  | .mth m x as, sc, a => (match a with
    | .Call (.Attribute l y ap) args [] cp => decide (y = mthN m) && (ap.endLine == cp.line) && baB l && chkE x sc l && (match args with
      | [] => decide (m = .bitlen) && isNilX as
      | [b] => decide (m ≠ .bitlen) && plainB b && chkL as sc [b]
      | _ => false)
    | _ => false)
  | .pop i e, sc, a => (match a with
    | .Call (.Attribute (.Name x _) y ap) [l] [] cp => decide (y = ("pop" : Str)) && nmB N sc i x && (ap.endLine == cp.line) && plainB l && chkE e sc l
    | _ => false)
  | .tget g e, sc, a => (match a with
    | .Subscript (.Name x _) b _ => glB sc x && !(x == ("__debug__" : Str)) && decide (W.tbs.lookup x = some g) && ixB b && chkE e sc b
    | _ => false)
  | .tmem g e, sc, a => (match a with
    | .Compare b [.In] [.Name x _] _ => glB sc x && !(x == ("__debug__" : Str)) && decide (W.tbs.lookup x = some g) && chkE e sc b
    | _ => false)
  | .dsp ks vs e, sc, a => (match a with
    | .Subscript (.Dict keys values _) b _ => dspB ks keys values && ixB b && chkD vs sc values && chkE e sc b
    | _ => false)
  | .dspd ks vs e x, sc, a => (match a with
    | .Call (.Attribute (.Dict keys values _) y ap) [l, r] [] cp => decide (y = ("get" : Str)) && dspB ks keys values && (ap.endLine == cp.line) && plainB l && plainB r && chkD vs sc values && chkE e sc l && chkE x sc r
    | _ => false)
  | .chn3 o o' o2 x y z t, sc, a => (match a with
    | .Compare l [op, op', op2] [r, u, v] _ => decide (op = copT o) && decide (op' = copT o') && decide (op2 = copT o2) && cRight o y && cRight o' z && cRight o2 t && notSetB v && chkE x sc l && chkE y sc r && chkE z sc u && chkE t sc v
    | _ => false)
  | .setlen x, sc, a => (match a with
    | .Call (.Name y _) [.Call (.Name z _) [l] [] _] [] _ => decide (y = ("len" : Str)) && decide (z = ("set" : Str)) && blB sc y && blB sc z && plainB l && chkE x sc l
    | _ => false)
  | .sset _, _, _ => false
  | .ixs x as, sc, a => (match a with
    | .Call (.Attribute l y ap) [b, b2] [] cp => decide (y = ("index" : Str)) && (ap.endLine == cp.line) && baB l && chkE x sc l && plainB b && plainB b2 && chkL as sc [b, b2]
    | _ => false)
  | .lnd _ e, sc, a => (match a with
    | .Call f as ks p => chkE e sc (.Call f as ks p)
    | _ => false)
  | .lnd2 _ _ e, sc, a => (match a with
    | .Call f as ks p => chkE e sc (.Call f as ks p)
    | _ => false)
  | .stuck, _, a => (match a with
    | .Name _ _ => true
    | .Call _ _ _ _ => true
    | .Subscript _ _ _ => true
    | .List _ _ => true
    | .Tuple _ _ _ => true
    | .BinOp _ _ _ _ => true
    | _ => false)
def chkB : Exs → Scope → List Expr → Bool
  | .nil, _, _ => false
  | .cons e es, sc, l => (match l with
    | [] => false
    | a :: r => chkE e sc a && (match r with
      | [] => (match es with
        | .nil => true
        | _ => false)
      | _ :: _ => chkB es sc r))
def chkL : Exs → Scope → List Expr → Bool
  | .nil, _, l => (match l with
    | [] => true
    | _ => false)
  | .cons e es, sc, l => (match l with
    | a :: r => plainB a && chkE e sc a && chkL es sc r
    | _ => false)
def chkD : Exs → Scope → List Expr → Bool
  | .nil, _, l => (match l with
    | [] => true
    | _ => false)
  | .cons e es, sc, l => (match l with
    | a :: r => chkE e sc a && chkD es sc r
    | _ => false)
def chkA : Exs → Scope → List Expr → Bool
  | .nil, _, l => (match l with
    | [] => true
    | _ => false)
  | .cons e es, sc, l => (match l with
    | a :: r => plainB a && (match e with
      | .io i => (match a with
        | .Name x _ => nmB N sc i x
        | _ => false)
      | .sarg i => (match a with
        | .Name x _ => nmB N sc i x
        | _ => false)
      | .xarg i => (match a with
        | .Name x _ => nmB N sc i x
        | _ => false)
      | e => chkE e sc a) && chkA es sc r
    | _ => false)
def chkPt : Exs → Scope → Option Expr → Bool
  | .nil, _, o => (match o with
    | none => true
    | _ => false)
  | .cons e es, sc, o => (match o with
    | some a => (match es with
      | .nil => chkE e sc a
      | _ => false)
    | _ => false)
def chkTs : Exs → Scope → List Expr → Bool
  | .nil, _, l => (match l with
    | [] => true
    | _ => false)
  | .cons e es, sc, l => (match l with
    | [a] => (match es with
      | .nil => chkE e sc a
      | _ => false)
    | _ => false)
def chkI : It → Scope → Expr → Expr → Bool
  | .seq e, sc, a, _ => chkE e sc a
  | .rng e, sc, a, _ => (match a with
    | .Call (.Name y _) [l] [] _ => decide (y = ("range" : Str)) && blB sc y && plainB l && chkE e sc l
    | _ => false)
  | .rng2 e e2, sc, a, _ => (match a with
    | .Call (.Name y _) [l, r] [] _ => decide (y = ("range" : Str)) && blB sc y && plainB l && plainB r && chkE e sc l && chkE e2 sc r
    | _ => false)
  | .rng3 e e2 e3, sc, a, _ => (match a with
    | .Call (.Name y _) [l, r, t] [] _ => decide (y = ("range" : Str)) && blB sc y && plainB l && plainB r && plainB t && chkE e sc l && chkE e2 sc r && chkE e3 sc t
    | _ => false)
  | .enum e, sc, a, tg => (match a with
    | .Call (.Name y _) [l] [] _ => decide (y = ("enumerate" : Str)) && blB sc y && plainB l && isTup tg && chkE e sc l
    | _ => false)
  | .zip e e2, sc, a, tg => (match a with
    | .Call (.Name y _) [l, r] [] _ => decide (y = ("zip" : Str)) && blB sc y && plainB l && plainB r && isTup tg && chkE e sc l && chkE e2 sc r
    | _ => false)
end
/-- does a stored comprehension's list wait in the name -/
def swB (sc : Scope) (x : Str) (xl : Nat) : Expr → Bool
  | .ListComp _ _ s pos => decide (sc.names.lookup x = some .local) && (xl == pos.line) && !(s.names.any fun (n, k) => n == x && (k == .local || k == .cell))
  | _ => false
/-- which names are stored in swapped order -/
def swP (sc : Scope) (ts vs : List Expr) : Option (Option (List Str)) :=
  if (!(ts.length == 2 || ts.length == 3) || vs.length != ts.length) = true then some none
  else if (vs.any fun | .Starred .. => true | _ => false) = true then some none
  else
    let line := (ts.head?.map (·.pos.line)).getD 0
    let names := ts.filterMap fun
      | .Name id pos => if (sc.names.lookup id == some .local && pos.line == line) = true then some id else none
      | _ => none
    if (names.length != ts.length || names.eraseDups.length != names.length) = true then some none
    else if vs.all (foldedForSure 8) = true then some none
    else if vs.all (constantsAlone 8) = true then none
    else some (some names)
mutual
def chkS (kr : Nat) (sc : Scope) : Sm → Stmt → Bool
  | .asg k i e, s => (match s with
    | .Assign [.Name x xp] a _ => tgB allT N sc i x && decide (k ≤ ow W.own e) && chkE W N e sc a && (notLcB a || (match a with
      | .ListComp _ _ _ _ => true
      | _ => false))
    | _ => false)
  | .asgT ts e, s => (match s with
    | .Assign [.Tuple es kk pt] a _ => chkE W N e sc a && chkG allT N sc (.tup ts) (.Tuple es kk pt) && (match a with
      | .Tuple vs _ _ => decide (swP sc es vs = some none)
      | _ => true)
    | _ => false)
  | .par i j x y ki kj, s => (match s with
    | .Assign [.Tuple [.Name nx px, .Name ny py] kt pt] (.Tuple [a, b] k2 pt2) _ => plainB a && plainB b && decide (ki ≤ ow W.own x) && decide (kj ≤ ow W.own y) && chkE W N x sc a && chkE W N y sc b &&
        ((decide (N[i]? = some nx) && decide (N[j]? = some ny) && decide (i ≠ j) && decide (sc.names.lookup nx = some .local) && decide (sc.names.lookup ny = some .local) && decide (swP sc [.Name nx px, .Name ny py] [a, b] = some (some [nx, ny]))) ||
         (tgB allT N sc i nx && tgB allT N sc j ny && decide (swP sc [.Name nx px, .Name ny py] [a, b] = some none)))
    | _ => false)
  | .aug i e, s => (match s with
    | .AugAssign (.Name x _) .Add a _ => tgB allT N sc i x && chkE W N e sc a
    | _ => false)
  | .expr e, s => (match s with
    | .Expr a _ => notLcB a && chkE W N e sc a
    | _ => false)
  | .mut i p m as, s => (match s with
    | .Expr (.Call (.Attribute o y ap) l [] cp) _ => (ap.endLine == cp.line) && chkPr N sc i p.reverse o && (match m, as, l with
      | .append, .cons e .nil, [a] => decide (y = ("append" : Str)) && plainB a && chkE W N e sc a
      | .extend, .cons e .nil, [a] => decide (y = ("extend" : Str)) && plainB a && chkE W N e sc a
      | .insert, .cons e (.cons e2 .nil), [a, a2] => decide (y = ("insert" : Str)) && plainB a && plainB a2 && chkE W N e sc a && chkE W N e2 sc a2
      | .reverse, .nil, [] => decide (y = ("reverse" : Str))
      | .clear, .nil, [] => decide (y = ("clear" : Str))
      | _, _, _ => false)
    | _ => false)
  | .seti i p x e, s => (match s with
    | .Assign [.Subscript o r _] a _ => notLcB a && chkPr N sc i p.reverse o && chkE W N e sc a && ixB r && (match p with
      | [] => chkE W N x sc r
      | _ :: _ => (match exAt x with
        | some y => chkAt N sc y r
        | none => false))
    | _ => false)
  | .augi i x e, s => (match s with
    | .AugAssign (.Subscript (.Name nx _) r _) .Add a _ => nmB N sc i nx && chkE W N e sc a && chkE W N x sc r && ixB r
    | _ => false)
  | .rse c, s => (match s with
    | .Raise (some (.Call (.Name x _) [.Constant (.str _) _ _] [] _)) none _ => decide (x = c) && glB sc x && !(x == ("__debug__" : Str)) && decide (x ∈ W.cls) && newB x
    | _ => false)
  | .trx b c i j, s => (match s with
    | .Try body [.ExceptHandler (some (.Name x _)) (some n) [.Assign [.Name y _] (.Name n2 _) _] _] [] [] _ => chkSs kr sc b body && decide (x = c) && glB sc x && !(x == ("__debug__" : Str)) && decide (x ∈ W.cls) && decide (n2 = n) && nmB N sc i n && decide (sc.names.lookup n = some .local) && tgB allT N sc j y
    | _ => false)
  | .ite c a b _, s => (match s with
    | .If c' a' b' _ => chkE W N c sc c' && chkSs kr sc a a' && chkSs kr sc b b'
    | _ => false)
  | .for_ t it b _, s => (match s with
    | .For tg iter b' [] _ => notSetB iter && chkI W N it sc iter tg && chkG allT N sc t tg && chkSs kr sc b b'
    | _ => false)
  | .mvl x es k b _, s => (match s with
    | .For (.Name nx _) (.Tuple l _ _) b' [] _ => tgB allT N sc x nx && chkL W N es sc l && decide (k ≤ owL W.own es) && decide (lenX es ≤ 1000) && chkSs kr sc b b'
    | _ => false)
  | .whl c b _, s => (match s with
    | .While c' b' [] _ => chkE W N c sc c' && chkSs kr sc b b'
    | _ => false)
  | .ret e, s => (match s with
    | .Return (some a) _ => decide (kr ≤ ow W.own e) && chkE W N e sc a
    | _ => false)
  | .retN, s => (match s with
    | .Return none _ => true
    | _ => false)
  | .pass, s => (match s with
    | .Pass _ => true
    | _ => false)
  | .brk, s => (match s with
    | .Break _ => true
    | _ => false)
  | .cont, s => (match s with
    | .Continue _ => true
    | _ => false)
  | .stuck, _ => true
  | .par3 i j l es, s => (match s with
    | .Assign [.Tuple [.Name nx px, .Name ny py, .Name nz pz] kt pt] (.Tuple [a, b, c] k2 pt2) _ => decide (N[i]? = some nx) && decide (N[j]? = some ny) && decide (N[l]? = some nz) && decide (i ≠ j) && decide (i ≠ l) && decide (j ≠ l) && decide (sc.names.lookup nx = some .local) && decide (sc.names.lookup ny = some .local) && decide (sc.names.lookup nz = some .local) &&
        decide (swP sc [.Name nx px, .Name ny py, .Name nz pz] [a, b, c] = some (some [nx, ny, nz])) && chkL W N es sc [a, b, c]
    | _ => false)
def chkSs (kr : Nat) (sc : Scope) : Sms → List Stmt → Bool
  | .nil, l => (match l with
    | [] => true
    | _ => false)
  | .cons s ss, l => (match l with
    | a :: r => chkS kr sc s a && chkSs kr sc ss r
    | _ => false)
end
end
end BW

/-! BwChk2: what the checker accepts, runs as the small language says: expressions. -/
namespace BW
noncomputable section
open PySem PySem.Spec PyProof.Rows L2
theorem plain_star {env : PySem.Env} {a : Expr} {l : List Expr} (h : plainB a = true) : starEach (a :: l) env = (false, eval a env) :: starEach l env := by
  cases a <;> first | rfl | cases h
theorem plain_asg {env : PySem.Env} {a : Expr} {l : List Expr} (h : plainB a = true) : assignEach (a :: l) env = (false, assign a env) :: assignEach l env := by
  cases a <;> first | rfl | cases h
theorem ix_noSl {b : Expr} (h : ixB b = true) : NoSl b := fun o i => by
  cases b <;> first | rfl | cases h
theorem ix_plain {b : Expr} (h : ixB b = true) : PlainIx b := fun o i => by
  cases b <;> first | rfl | cases h
theorem base_ok {a : Expr} (h : baB a = true) (y : Str) (env : PySem.Env) (w : Sem Value) : attributeBase a y env w = w := by
  cases a with
  | Call f as ks p =>
    cases as with
    | nil => cases h
    | cons x as => cases f <;> rfl
  | _ => rfl
theorem notSet_in {b : Expr} (h : notSetB b = true) (o : CmpOp) : behindInMarks o b = false := by
  cases b <;> first | rfl | cases h
theorem notSet_for {b : Expr} {env : PySem.Env} (h : notSetB b = true) : ∀ x, foldedSetIterable b env x = pure x := fun x => by
  cases b <;> first | rfl | cases h
/-- what is known of a text's class -/
structure XG (K : PySem.W.Frag) (mg : Str → Option Value) (d : Str) : Prop where
  ok : XOk K d
  mem : d ∈ xcls
  mg : mg d = some (.ref (He.ga K d))
  ex : newB d = true → PySem.W.excIn K (He.ga K d) He.veBase "ValueError.__new__" = true
  kp : PySem.W.keepIn K (.ref (He.ga K d)) = true
  sb : PySem.W.subIn K (.ref (He.ga K d)) (.type "BaseException") = some true
  ty : PySem.W.typeIn K (.ref (He.ga K d)) = some (.type "type")
structure CT (W : Wd) (T : Tab) (n : Nat) (G : Nat → D) (X : Cx) (N : List Str) (sc : Scope) (top : Str → Bool) : Prop where
  scope : X.env.scope = sc
  hn : X.N = N
  nd : N.Nodup
  kind : sc.kind = .function
  calm : X.calm = true
  un : X.A.units + 65 < cLine
  pass : PassesOwn (model X.prog X.w) X.A X.env X.xe
  top : ∀ x, top x = true → X.fn x = true
  own : W.own = ownT T
  blt : ∀ x ∈ bltNames, X.mg x = none
  room : GRoom n X.A
  fn : ∀ x f, W.fns.lookup x = some f → ∃ fa fd ps, GFn X.prog X.w X.K X.mg X.base n fa fd ps (spFn X.K T G n f) ∧ X.mg x = some (.ref fa) ∧ PySem.W.keepIn X.K (.ref fa) = true ∧ Binds X.K fd ps []
  rn : ∀ x f, W.fns.lookup x = some f → ∃ fa fd ps, GRn X.prog X.w X.K X.mg X.base n fa fd ps (spRs X.K T G n f) ∧ X.mg x = some (.ref fa) ∧ PySem.W.keepIn X.K (.ref fa) = true ∧ Binds X.K fd ps []
  xc : ∀ d ∈ W.cls, XG X.K X.mg d
  xv : W.cls ≠ [] → X.mg "ValueError" = none
  tb : ∀ x g, W.tbs.lookup x = some g → TabAt X x g
  gl : ∀ x g, W.gls.lookup x = some g → ∃ v u, X.mg x = some u ∧ RelV v u ∧ ∀ H Z, Fz X.K H Z (G g) v
section
variable {W : Wd} {T : Tab} {n : Nat} {G : Nat → D} {X : Cx} {N : List Str} {sc : Scope} {top : Str → Bool} {B : Bk}
theorem CT.vis (c : CT W T n G X N sc top) {x : Str} (h : visB sc x = true) : Vis X.env.scope x := by
  rw [c.scope]
  unfold visB at h
  unfold Vis
  cases e : sc.names.lookup x with
  | none => rw [e] at h; cases h
  | some k => rw [e] at h; cases k <;> first | exact .inl rfl | exact .inr (.inl rfl) | exact .inr (.inr rfl) | cases h
theorem CT.nm (c : CT W T n G X N sc top) {i : Nat} {x : Str} (h : nmB N sc i x = true) : X.N[i]? = some x ∧ Vis X.env.scope x ∧ (x == ("__debug__" : Str)) = false ∧ (x == ("__classdict__" : Str)) = false := by
  unfold nmB at h
  simp only [Bool.and_eq_true, decide_eq_true_eq, Bool.not_eq_true'] at h
  exact ⟨by rw [c.hn]; exact h.1.1.1, c.vis h.1.1.2, h.1.2, h.2⟩
theorem CT.gb (c : CT W T n G X N sc top) {x : Str} (h : glB sc x = true) : Gl X x := by
  unfold glB at h
  unfold Gl PySem.Env.kindOf
  rw [c.scope]
  simpa using h
theorem CT.bl (c : CT W T n G X N sc top) {x : Str} (h : blB sc x = true) : Gl X x ∧ X.mg x = none := by
  unfold blB at h
  simp only [Bool.and_eq_true, decide_eq_true_eq] at h
  exact ⟨c.gb h.1, c.blt x h.2⟩
theorem CT.tg (c : CT W T n G X N sc top) {i : Nat} {x : Str} (h : tgB top N sc i x = true) : X.N[i]? = some x ∧ Loc X.env.scope x ∧ (X.fn x = true ∨ X.env.scope.names.lookup x = some .local) := by
  unfold tgB at h
  simp only [Bool.and_eq_true, Bool.or_eq_true, decide_eq_true_eq] at h
  rw [c.scope, c.hn]
  refine ⟨h.1, ?_, ?_⟩
  · rcases h.2 with h | h
    · exact .inl h
    · exact .inr h.2
  · rcases h.2 with h | h
    · exact .inr h
    · exact .inl (c.top x h.1)
theorem CT.hN (c : CT W T n G X N sc top) : X.N.Nodup := by rw [c.hn]; exact c.nd
theorem CT.hp (c : CT W T n G X N sc top) : PassesOwn (model X.prog X.w) X.A X.env X.xe := c.pass
theorem CT.blk (c : CT W T n G X N sc top) {scope : Scope} {own : List Nat} (h : blkB N sc scope own = true) (s : Shared) (H : Hp) (A : Addr) (cl : List (Str × Addr)) (fp : List Addr) :
    CT W T n G (X.blk s H scope (compEnvC scope cl A X.env) fp) N (relS scope sc) (celB scope) where
  scope := by
    show relabel scope X.env = relS scope sc
    rw [← c.scope]
    rfl
  hn := c.hn
  nd := c.nd
  kind := by
    unfold blkB at h
    simp only [Bool.and_eq_true, decide_eq_true_eq] at h
    exact h.1.1
  calm := c.calm
  un := c.un
  pass := PassesOwn.never
  top := fun _ z => z
  own := c.own
  blt := c.blt
  room := c.room
  fn := c.fn
  rn := c.rn
  xc := c.xc
  xv := c.xv
  tb := c.tb
  gl := c.gl
theorem CT.ok (c : CT W T n G X N sc top) {scope : Scope} {own : List Nat} (h : blkB N sc scope own = true) : BlkOk X.N X.env.scope scope (own.map fun i => (N.getD i ⟨#[]⟩, i)) := by
  unfold blkB at h
  simp only [Bool.and_eq_true, decide_eq_true_eq, List.all_eq_true] at h
  obtain ⟨⟨h1, h2⟩, h3⟩ := h
  have hg : ∀ i ∈ own, N[i]? = some (N.getD i ⟨#[]⟩) := fun i hi => by
    have := h2 i hi
    obtain ⟨x, hx⟩ := Option.isSome_iff_exists.mp this
    rw [hx, List.getD_eq_getElem?_getD, hx]; rfl
  rw [c.scope, c.hn]
  refine ⟨h1, fun y hy => (h3 y hy).1.1, fun p hp => ?_, fun y hy hf => ?_, fun y hy hl => ?_⟩
  · obtain ⟨i, hi, rfl⟩ := List.mem_map.mp hp
    exact hg i hi
  · have q := (h3 y hy).1.2
    simp only [Bool.or_eq_true, Bool.not_eq_true', decide_eq_false_iff_not, decide_eq_true_eq] at q
    rcases q with (q | q) | q
    · exact absurd hf q
    · exact .inl q
    · exact .inr q
  · have q := (h3 y hy).2
    simp only [Bool.or_eq_true, Bool.not_eq_true', decide_eq_false_iff_not, decide_eq_true_eq, Bool.or_eq_false_iff, List.any_eq_true, List.any_eq_false] at q
    rcases q with (q | q) | q
    · exact (hl.elim q.1 q.2).elim
    · obtain ⟨i, hi, e⟩ := q
      refine .inl ?_
      rw [List.map_map]
      refine List.mem_map.mpr ⟨i, hi, ?_⟩
      have := hg i hi
      rw [e] at this
      exact (Option.some.inj this).symm
    · exact .inr fun hm => q _ hm rfl
/-- a module's constant -/
theorem s_glob {x : Str} {g k : Nat} {pos : Pos} {C : Calls} (hg : Gl X x) (hd : (x == ("__debug__" : Str)) = false) (h : ∃ v u, X.mg x = some u ∧ RelV v u ∧ ∀ H Z, Fz X.K H Z (G g) v) : PE X (.Name x pos) (spE X.K B C G (.glob g) 0) := by
  obtain ⟨v, u, h1, h2, h3⟩ := h
  refine ⟨fun pins s σ H Q I ⟨ρ, Z, F, d, ρ', sr, ev, q⟩ => ?_⟩
  simp only [evE] at ev
  cases ev
  exact ld_glob I hg h1 ⟨v, H, I, h2, kn_fz q sr (h3 H Z)⟩ hd
/-- at a lesser depth -/
theorem pe_dn {a : Expr} {g : Env → Option (D × Env)} {j k : Nat} (h : PE X a (spF X.K B g k)) (hj : j ≤ k) : PE X a (spF X.K B g j) :=
  h.imp fun σ H Q ⟨ρ, Z, F, d, ρ', s, e, q⟩ => ⟨ρ, Z, F, d, ρ', s, e, fun v H' Z' F' T' s' r o => fin_ow s' r o hj fun Z2 T2 s2 r2 o2 => q v H' Z2 F' T2 s2 r2 o2⟩
theorem pa_dn {l : List Expr} {g : Env → Option (List D × Env)} {j k : Nat} (h : PA X l (spL X.K B g k)) (hj : j ≤ k) : PA X l (spL X.K B g j) :=
  h.imp fun σ H Q ⟨ρ, Z, F, d, ρ', s, e, q⟩ => ⟨ρ, Z, F, d, ρ', s, e, fun vs H' Z' F' T' s' r o => by
    obtain ⟨T2, sub, o2⟩ := o.weak hj
    exact q vs H' _ F' T2 (s'.settle' r.tm sub) (r.settle sub) o2⟩
end
end
end BW

/-! BwChk3: the checker's word: expressions. -/
namespace BW
noncomputable section
open PySem PySem.Spec PyProof.Rows L2
def PEs (X : Cx) (B : Bk) (C : Calls) (G : Nat → D) (O : Nat → Nat) (e : Ex) (a : Expr) : Prop := PE X a (spE X.K B C G e (ow O e)) ∧ PT X a (spT X.K B (evE C G e))
section
variable {W : Wd} {T : Tab} {n : Nat} {G : Nat → D} {X : Cx} {N : List Str} {sc : Scope} {top : Str → Bool} {B : Bk} {C : Calls} {O : Nat → Nat} {e : Ex} {a : Expr}
theorem two (h : PE X a (spE X.K B C G e (ow O e))) (ht : ∀ whole, isTrue a X.env whole = (do let v ← whole; standAt a.pos; holding [v] (truthy v))) : PEs X B C G O e a := ⟨h, t_of (pe_dn h (Nat.zero_le _)) ht⟩
theorem PEs.z (h : PEs X B C G O e a) : PE X a (spE X.K B C G e 0) := pe_dn h.1 (Nat.zero_le _)
theorem var_inv {i : Nat} (h : chkE W N (.var i) sc a = true) : ∃ x pos, a = .Name x pos ∧ nmB N sc i x = true := by
  unfold chkE at h
  split at h
  · exact ⟨_, _, rfl, h⟩
  · cases h
theorem op_ok (c : CT W T n G X N sc top) (h : chkE W N e sc a = true) (p : PEs X B C G O e a) : PE X a (spO X.K B (opX C G e)) :=
  s_opd p.z fun i hi => by
    subst hi
    obtain ⟨x, pos, rfl, hn⟩ := var_inv h
    have q := c.nm hn
    exact ⟨x, pos, rfl, q.1, q.2.1, q.2.2.1, q.2.2.2⟩
theorem at_ok (c : CT W T n G X N sc top) : ∀ {x : At} {a : Expr}, chkAt N sc x a = true → PE X a (spAt X.K B x)
  | .n i, a, h => by
    simp only [chkAt] at h
    split at h
    · have := of_decide_eq_true h
      subst this
      exact at_n
    · have := of_decide_eq_true h
      subst this
      exact at_neg
    · cases h
  | .v i, a, h => by
    simp only [chkAt] at h
    split at h
    · have q := c.nm h
      exact at_v q.1 q.2.1 q.2.2.1 q.2.2.2
    · cases h
theorem at_ix {x : At} (h : chkAt N sc x a = true) : ixB a = true := by
  cases x <;> (simp only [chkAt] at h; split at h <;> first | rfl | cases h)
theorem pr_ok (c : CT W T n G X N sc top) {i : Nat} : ∀ {rp : List At} {a : Expr}, chkPr N sc i rp a = true → PE X a (spPth X.K B i rp.reverse)
  | [], a, h => by
    unfold chkPr at h
    split at h
    · have q := c.nm h
      exact pth_nil q.1 q.2.1 q.2.2.1 q.2.2.2
    · cases h
  | x :: rp, a, h => by
    unfold chkPr at h
    split at h
    · simp only [Bool.and_eq_true] at h
      rw [List.reverse_cons]
      exact pth_snoc (pr_ok c h.1) (at_ok c h.2) (ix_plain (at_ix h.2))
    · cases h
theorem pth_ok (c : CT W T n G X N sc top) {i : Nat} {p : List At} (h : chkPr N sc i p.reverse a = true) : PE X a (spPth X.K B i p) := by
  have q := pr_ok (B := B) c h
  rwa [List.reverse_reverse] at q
theorem un_ok (c : CT W T n G X N sc top) (h : chkE W N e sc a = true) (p : PEs X B C G O e a) : PE X a (spU X.K B (o1X C G e)) := by
  by_cases hp : ∃ i q, e = .pth i q
  · obtain ⟨i, q, rfl⟩ := hp
    unfold chkE at h
    exact u_pth (pth_ok c h)
  · refine opnd1 p.z (fun i hi => ?_) fun i q e => hp ⟨i, q, e⟩
    subst hi
    obtain ⟨x, pos, rfl, hn⟩ := var_inv h
    have q := c.nm hn
    exact ⟨x, pos, rfl, q.1, q.2.1, q.2.2.1, q.2.2.2⟩
theorem pr_isT {i : Nat} {rp : List At} (h : chkPr N sc i rp a = true) (env : PySem.Env) : ∀ whole, isTrue a env whole = (do let v ← whole; standAt a.pos; holding [v] (truthy v)) := by
  cases rp <;> (unfold chkPr at h; split at h <;> first | exact fun _ => rfl | cases h)
theorem tys_ok (c : CT W T n G X N sc top) : ∀ {ts : List Ty} {es : List Expr}, chkTys sc ts es = true → ∃ ps, es = tyNames ts ps ∧ ts.length = ps.length ∧ ∀ t ∈ ts, Gl X (tyN t) ∧ X.mg (tyN t) = none
  | [], [], _ => ⟨[], rfl, rfl, fun _ h => by cases h⟩
  | [], _ :: _, h => by simp [chkTys] at h
  | _ :: _, [], h => by simp [chkTys] at h
  | t :: ts, e :: es, h => by
    simp only [chkTys, Bool.and_eq_true] at h
    obtain ⟨h1, h2⟩ := h
    obtain ⟨ps, rfl, h3, h4⟩ := tys_ok c h2
    unfold chkTy at h1
    split at h1
    · simp only [Bool.and_eq_true, decide_eq_true_eq] at h1
      obtain ⟨rfl, hb⟩ := h1
      rename_i p
      refine ⟨p :: ps, rfl, by simp [h3], fun t' ht => ?_⟩
      rcases List.mem_cons.mp ht with rfl | ht
      · exact c.bl hb
      · exact h4 t' ht
    · cases h1
theorem xa_ok (c : CT W T n G X N sc top) {d : Str} (h : xaB W.cls sc d = true) : XAsk X d := by
  unfold xaB at h
  simp only [Bool.and_eq_true, Bool.not_eq_true'] at h
  obtain ⟨⟨h1, h2⟩, h3⟩ := h
  refine ⟨c.gb h1, ?_⟩
  split at h3
  · rename_i e
    subst e
    exact .inl ⟨rfl, c.xv fun z => by rw [z] at h3; cases h3⟩
  · rename_i e
    have g := c.xc d (of_decide_eq_true h3)
    exact .inr ⟨e, h2, g.mem, g.ok.ns, g.mg⟩
theorem xs_ok (c : CT W T n G X N sc top) : ∀ {es : List Expr} {ds : List Str}, xsB W.cls sc es ds = true → ∃ ps, es = xNames ds ps ∧ ds.length = ps.length ∧ ∀ d ∈ ds, XAsk X d
  | [], [], _ => ⟨[], rfl, rfl, fun _ h => by cases h⟩
  | [], _ :: _, h => by unfold xsB at h; cases h
  | e :: es, [], h => by
    exfalso
    unfold xsB at h
    split at h
    · rename_i h1 h2; cases h1
    · rename_i h1 h2; cases h2
    · cases h
  | e :: es, d :: ds, h => by
    unfold xsB at h
    split at h
    · rename_i h1 h2; cases h1
    · rename_i d0 p es' d' ds' h1 h2
      cases h1
      cases h2
      simp only [Bool.and_eq_true, decide_eq_true_eq] at h
      obtain ⟨⟨rfl, h3⟩, h4⟩ := h
      obtain ⟨ps, rfl, h5, h6⟩ := xs_ok c h4
      refine ⟨p :: ps, rfl, by simp [h5], fun t ht => ?_⟩
      rcases List.mem_cons.mp ht with rfl | ht
      · exact xa_ok c h3
      · exact h6 t ht
    · cases h
theorem plain_all {env : PySem.Env} (pos : Pos) : ∀ {l : List Expr}, (∀ a ∈ l, plainB a = true) → (backTo pos (starEach l env)).any (·.1) = false
  | [], _ => rfl
  | a :: l, h => by
    rw [plain_star (h a (List.mem_cons_self ..))]
    have ih := plain_all (env := env) pos (l := l) fun b hb => h b (List.mem_cons_of_mem _ hb)
    unfold backTo at ih ⊢
    rw [List.map_cons, List.any_cons, ih]
    rfl
mutual
theorem chkG_ok (c : CT W T n G X N sc top) : ∀ (t : Tg) {a : Expr}, chkG top N sc t a = true → PG X a (spG X.K B t)
  | .var i, a, h => by
    unfold chkG at h
    split at h
    · have q := c.tg h
      exact g_var c.hN q.1 q.2.1 q.2.2
    · cases h
  | .tup ts, a, h => by
    unfold chkG at h
    split at h
    · obtain ⟨q1, q2, q3⟩ := chkGs_ok c ts h
      exact g_tup (pg_tup c.calm q1 q2 q3) (pg_lst c.calm q1 q2 q3)
    · cases h
theorem chkGs_ok (c : CT W T n G X N sc top) : ∀ (t : Tgs) {l : List Expr}, chkGs top N sc t l = true → PGs X l (spGs X.K B t) ∧ (assignEach l X.env).length = lenTs t ∧ (assignEach l X.env).findIdx? (·.1) = none
  | .nil, l, h => by
    unfold chkGs at h
    split at h
    · exact ⟨gs_nil, rfl, rfl⟩
    · cases h
  | .cons t ts, l, h => by
    unfold chkGs at h
    split at h
    · simp only [Bool.and_eq_true] at h
      have q1 := chkG_ok c t h.1.2
      obtain ⟨q2, q3, q4⟩ := chkGs_ok c ts h.2
      have e := fun l => plain_asg (env := X.env) (l := l) h.1.1
      refine ⟨gs_cons q1 q2 (pgs_cons q1 q2 (by rw [e]; rfl)), ?_, ?_⟩
      · rw [e, List.length_cons, q3]; rfl
      · rw [e, List.findIdx?_cons]
        simp [q4]
    · cases h
end
/-- c ? a : b as a test -/
theorem t_ite {c' a' b' : Expr} {ec ea eb : Ex} {pos : Pos} (hc : PT X c' (spT X.K B (evE C G ec))) (ha : PT X a' (spT X.K B (evE C G ea))) (hb : PT X b' (spT X.K B (evE C G eb))) : PT X (.IfExp c' a' b' pos) (spT X.K B (evE C G (.ite ec ea eb))) := by
  refine ⟨fun pins s σ H Q I ⟨ρ, Z, F, b, ρ', sr, ev, q⟩ => ?_⟩
  simp only [evE] at ev
  obtain ⟨⟨d, ρ1⟩, e1, ev⟩ := Option.bind_eq_some_iff.mp ev
  obtain ⟨z, e2, ev⟩ := Option.bind_eq_some_iff.mp ev
  cases d <;> cases e2
  show wpAny _ _ (do if ← isTrue c' X.env (eval c' X.env) then isTrue a' X.env (eval a' X.env) else isTrue b' X.env (eval b' X.env)) _ _ _
  refine wpAny_bind (wpAny_mono (hc.run pins s σ H (fun b H1 => ∃ Z1 F1, SR X.K B σ ρ1 H1 Z1 F1 ∧ Ps H Z F H1 Z1 F1 ∧ b = z) I ⟨ρ, Z, F, z, ρ1, sr, e1, fun H' Z' F' s' p => ⟨Z', F', s', p, rfl⟩⟩) ?_ (fun _ _ h => h))
  rintro t s1 ⟨H1, I1, Z1, F1, s1', p1, rfl⟩
  cases t with
  | true =>
    simp only [if_true] at ev ⊢
    exact ha.run pins s1 σ H1 Q I1 ⟨ρ1, Z1, F1, b, ρ', s1', ev, fun H' Z' F' s' p => q H' Z' F' s' (p1.trans p)⟩
  | false =>
    simp only [Bool.false_eq_true, if_false] at ev ⊢
    exact hb.run pins s1 σ H1 Q I1 ⟨ρ1, Z1, F1, b, ρ', s1', ev, fun H' Z' F' s' p => q H' Z' F' s' (p1.trans p)⟩
end
end
end BW

/-! BwChk4: the checker's word: expressions, by recursion. -/
namespace BW
noncomputable section
open PySem PySem.Spec PyProof.Rows L2
section
variable {W : Wd} {T : Tab} {n : Nat} {G : Nat → D} {N : List Str} {B : Bk}
theorem and_ev {C : Calls} {es : Exs} : evE C G (.and es) = evAnd C G es := funext fun ρ => by simp only [evE]
theorem or_ev {C : Calls} {es : Exs} : evE C G (.or es) = evOr C G es := funext fun ρ => by simp only [evE]
theorem ow_min {O : Nat → Nat} {e : Ex} {es : Exs} : owL O (.cons e es) ≤ ow O e ∧ owL O (.cons e es) ≤ owL O es := by
  simp only [owL]
  exact ⟨Nat.min_le_left _ _, Nat.min_le_right _ _⟩
theorem keys_ok : ∀ {ks : List Str} {keys : List (Option Expr)}, keysB ks keys = true → keys.length = ks.length ∧ keys.all (·.isSome) = true
  | [], [], _ => ⟨rfl, rfl⟩
  | [], _ :: _, h => by cases h
  | _ :: _, [], h => by simp [keysB] at h
  | k :: ks, o :: r, h => by
    unfold keysB at h
    split at h
    · rename_i heq _
      cases heq
    · rename_i h1 h2
      cases h1
      cases h2
      rw [Bool.and_eq_true] at h
      obtain ⟨q1, q2⟩ := keys_ok h.2
      exact ⟨by simp [q1], by simpa using q2⟩
    · cases h
mutual
theorem chkE_ok : ∀ (e : Ex) {X : Cx} {sc : Scope} {top : Str → Bool} {a : Expr}, CT W T n G X N sc top → chkE W N e sc a = true → PEs X B (callN T G n) G (ownT T) e a
  | .non, X, sc, top, a, c, h => by
    unfold chkE at h; split at h
    · exact two s_non fun _ => rfl
    · cases h
  | .bl b, X, sc, top, a, c, h => by
    unfold chkE at h; split at h
    · have := eq_of_beq h
      subst this
      exact two s_bl fun _ => rfl
    · cases h
  | .int i, X, sc, top, a, c, h => by
    unfold chkE at h; split at h
    · have := of_decide_eq_true h
      subst this
      exact two s_int fun _ => rfl
    · cases h
  | .str i, X, sc, top, a, c, h => by
    unfold chkE at h; split at h
    · have := of_decide_eq_true h
      subst this
      exact two s_str fun _ => rfl
    · cases h
  | .var i, X, sc, top, a, c, h => by
    unfold chkE at h; split at h
    · have q := c.nm h
      exact two (s_var q.1 q.2.1 q.2.2.1 q.2.2.2) fun _ => rfl
    · cases h
  | .mv i j, X, sc, top, a, c, h => by
    unfold chkE at h; split at h
    · have q := c.nm h
      exact two (s_mv q.1 q.2.1 q.2.2.1 q.2.2.2 (Nat.le_refl _)) fun _ => rfl
    · cases h
  | .io _, X, sc, top, a, c, h => by unfold chkE at h; cases h
  | .sarg _, X, sc, top, a, c, h => by unfold chkE at h; cases h
  | .xarg _, X, sc, top, a, c, h => by unfold chkE at h; cases h
  | .isx i cs, X, sc, top, a, c, h => by
    unfold chkE at h; split at h
    · simp only [Bool.and_eq_true, decide_eq_true_eq] at h
      obtain ⟨⟨⟨rfl, h1⟩, h2⟩, h3⟩ := h
      have q := c.bl h1
      have nn := c.nm h2
      split at h3
      · simp only [Bool.and_eq_true, decide_eq_true_eq] at h3
        obtain ⟨rfl, h4⟩ := h3
        exact two (s_isx1 nn.1 nn.2.1 nn.2.2.1 nn.2.2.2 q.1 q.2 (xa_ok c h4)) fun _ => rfl
      · simp only [Bool.and_eq_true, decide_eq_true_eq] at h3
        obtain ⟨ps, rfl, hl, ht⟩ := xs_ok c h3.1
        exact two (s_isxT nn.1 nn.2.1 nn.2.2.1 nn.2.2.2 q.1 q.2 ht hl h3.2) fun _ => rfl
      · cases h3
    · cases h
  | .xnon i, X, sc, top, a, c, h => by
    unfold chkE at h; split at h
    · have nn := c.nm h
      exact ⟨s_xnon nn.1 nn.2.1 nn.2.2.1 nn.2.2.2, t_xnon nn.1 nn.2.1 nn.2.2.1 nn.2.2.2⟩
    · cases h
  | .mth m x as, X, sc, top, a, c, h => by
    unfold chkE at h; split at h
    · simp only [Bool.and_eq_true, decide_eq_true_eq] at h
      obtain ⟨⟨⟨⟨rfl, h2⟩, h3⟩, h4⟩, h5⟩ := h
      have ho := op_ok c h4 (chkE_ok x c h4)
      split at h5
      · simp only [Bool.and_eq_true, decide_eq_true_eq] at h5
        obtain ⟨rfl, h6⟩ := h5
        cases as with
        | nil => exact two (s_mth0 ho (fun y => base_ok h3 y X.env _) h2 (Nat.le_refl _)) fun _ => rfl
        | cons _ _ => cases h6
      · simp only [Bool.and_eq_true, decide_eq_true_eq] at h5
        obtain ⟨⟨h6, h7⟩, h8⟩ := h5
        have ha := pa_dn (chkL_ok as c h8) (Nat.zero_le _)
        exact two (s_mth1 h6 c.un ho ha (fun y => base_ok h3 y X.env _) h2 (plain_star h7) (Nat.le_refl _)) fun _ => rfl
      · cases h5
    · cases h
  | .sidx i e, X, sc, top, a, c, h => by
    unfold chkE at h; split at h
    · simp only [Bool.and_eq_true] at h
      have q := c.nm h.1.1
      exact two (s_sidx q.1 q.2.1 q.2.2.1 q.2.2.2 (chkE_ok e c h.2).z (ix_plain h.1.2)) fun _ => rfl
    · cases h
  | .slen i, X, sc, top, a, c, h => by
    unfold chkE at h; split at h
    · simp only [Bool.and_eq_true, decide_eq_true_eq] at h
      obtain ⟨⟨rfl, hb⟩, hn⟩ := h
      have q := c.nm hn
      have b := c.bl hb
      exact two (s_slen (y := default) b.1 b.2 q.1 q.2.1 q.2.2.1 q.2.2.2) fun _ => rfl
    · cases h
  | .pth i p, X, sc, top, a, c, h => by
    have h' := h
    unfold chkE at h'
    exact two (s_pth (pth_ok c h')) (pr_isT h' X.env)
  | .glob g, X, sc, top, a, c, h => by
    unfold chkE at h; split at h
    · simp only [Bool.and_eq_true, decide_eq_true_eq, Bool.not_eq_true'] at h
      exact two (s_glob (k := 0) (c.gb h.1.1) h.1.2 (c.gl _ _ h.2)) fun _ => rfl
    · cases h
  | .bin o x y, X, sc, top, a, c, h => by
    unfold chkE at h; split at h
    · simp only [Bool.and_eq_true, decide_eq_true_eq] at h
      obtain ⟨⟨rfl, h1⟩, h2⟩ := h
      exact two (s_bin (op_ok c h1 (chkE_ok x c h1)) (op_ok c h2 (chkE_ok y c h2)) (Nat.le_refl _)) fun _ => rfl
    · cases h
  | .neg x, X, sc, top, a, c, h => by
    unfold chkE at h; split at h
    · exact two (s_neg (chkE_ok x c h).z) fun _ => rfl
    · cases h
  | .cmp o x y, X, sc, top, a, c, h => by
    unfold chkE at h; split at h
    · simp only [Bool.and_eq_true, decide_eq_true_eq] at h
      obtain ⟨⟨⟨⟨rfl, h0⟩, h00⟩, h1⟩, h2⟩ := h
      exact ⟨s_cmp c.un (op_ok c h1 (chkE_ok x c h1)) (op_ok c h2 (chkE_ok y c h2)) h0 (notSet_in h00 _), t_cmp c.un (op_ok c h1 (chkE_ok x c h1)) (op_ok c h2 (chkE_ok y c h2)) h0 (notSet_in h00 _)⟩
    · cases h
  | .chn o o' x y z, X, sc, top, a, c, h => by
    unfold chkE at h; split at h
    · simp only [Bool.and_eq_true, decide_eq_true_eq] at h
      obtain ⟨⟨⟨⟨⟨⟨⟨rfl, rfl⟩, h0⟩, h00⟩, h000⟩, h1⟩, h2⟩, h3⟩ := h
      have p1 := op_ok c h1 (chkE_ok x c h1)
      have p2 := op_ok c h2 (chkE_ok y c h2)
      have p3 := op_ok c h3 (chkE_ok z c h3)
      exact ⟨s_chn c.un p1 p2 p3 h0 h00 (notSet_in h000 _), t_chn c.un p1 p2 p3 h0 h00 (notSet_in h000 _)⟩
    · cases h
  | .and es, X, sc, top, a, c, h => by
    unfold chkE at h; split at h
    · obtain ⟨q1, q2, _, _⟩ := chkB_ok es c h
      unfold PEs
      rw [spE, and_ev]
      exact ⟨q1 _ _, (q2 _).pt⟩
    · cases h
  | .or es, X, sc, top, a, c, h => by
    unfold chkE at h; split at h
    · obtain ⟨_, _, q1, q2⟩ := chkB_ok es c h
      unfold PEs
      rw [spE, or_ev]
      exact ⟨q1 _ _, (q2 _).pt⟩
    · cases h
  | .not x, X, sc, top, a, c, h => by
    unfold chkE at h; split at h
    · have q := chkE_ok x c h
      exact ⟨s_not q.z, t_not q.2⟩
    · cases h
  | .ite c' x y, X, sc, top, a, c, h => by
    unfold chkE at h; split at h
    · simp only [Bool.and_eq_true] at h
      have q1 := chkE_ok c' c h.1.1
      have q2 := chkE_ok x c h.1.2
      have q3 := chkE_ok y c h.2
      exact ⟨s_ite q1.2 (pe_dn q2.1 (by simp only [ow]; exact Nat.min_le_left _ _)) (pe_dn q3.1 (by simp only [ow]; exact Nat.min_le_right _ _)), t_ite q1.2 q2.2 q3.2⟩
    · cases h
  | .tup es, X, sc, top, a, c, h => by
    unfold chkE at h; split at h
    · simp only [Bool.and_eq_true, decide_eq_true_eq] at h
      exact two (s_tup (pa_dn (chkL_ok es c h.2) (Nat.zero_le _)) h.1) fun _ => rfl
    · cases h
  | .lst es, X, sc, top, a, c, h => by
    unfold chkE at h; split at h
    · simp only [Bool.and_eq_true, decide_eq_true_eq] at h
      exact two (s_lst (chkL_ok es c h.2) h.1 (by simp only [ow]; exact Nat.le_refl _)) fun _ => rfl
    · cases h
  | .idx x i, X, sc, top, a, c, h => by
    unfold chkE at h; split at h
    · simp only [Bool.and_eq_true] at h
      obtain ⟨⟨h0, h1⟩, h2⟩ := h
      exact two (s_idx (op_ok c h1 (chkE_ok x c h1)) (op_ok c h2 (chkE_ok i c h2)) (ix_plain h0)) fun _ => rfl
    · cases h
  | .slc x lo hi, X, sc, top, a, c, h => by
    unfold chkE at h; split at h
    · simp only [Bool.and_eq_true] at h
      obtain ⟨⟨h0, h1⟩, h2⟩ := h
      exact two (s_slc (op_ok c h0 (chkE_ok x c h0)) (chkPt_ok lo c h1) (chkPt_ok hi c h2) (Nat.le_refl _)) fun _ => rfl
    · cases h
  | .rev x, X, sc, top, a, c, h => by
    unfold chkE at h; split at h
    · exact two (s_rev (un_ok c h (chkE_ok x c h)) (Nat.le_refl _)) fun _ => rfl
    · cases h
  | .comp e t it cs own, X, sc, top, a, c, h => by
    unfold chkE at h; split at h
    · simp only [Bool.and_eq_true, decide_eq_true_eq, List.all_eq_true] at h
      obtain ⟨⟨⟨⟨⟨⟨⟨rfl, h0⟩, h1⟩, h2⟩, h3⟩, h4⟩, h5⟩, h6⟩ := h
      refine two (s_comp (j := ow (ownT T) e) c.calm c.hN (chkI_ok it c h3) (c.ok h1) (fun s H A cl fp => chkG_ok (c.blk h1 s H A cl fp) t h4) (fun s H A cl fp => chkTs_ok cs (c.blk h1 s H A cl fp) h5) (fun s H A cl fp => (chkE_ok e (c.blk h1 s H A cl fp) h6).1) (notSet_for h0) ?_ h2 (by simp only [ow]; exact Nat.le_refl _)) fun _ => rfl
      rw [List.map_map]
      exact (List.map_congr_left fun _ _ => rfl).trans (List.map_id _)
    · cases h
  | .call f as, X, sc, top, a, c, h => by
    unfold chkE at h; split at h
    · simp only [Bool.and_eq_true, decide_eq_true_eq, Bool.not_eq_true'] at h
      obtain ⟨⟨⟨h0, h1⟩, h2⟩, h3⟩ := h
      obtain ⟨fa, fd, ps, g, hm, kp, bi⟩ := c.fn _ _ h2
      obtain ⟨q1, q2⟩ := chkA_ok as c h3
      rename_i l _
      cases l with
      | nil =>
        cases as with
        | nil => exact two (s_call0 g c.room (c.gb h0) hm kp bi h1 (Nat.le_refl _)) fun _ => rfl
        | cons => unfold chkA at h3; cases h3
      | cons b l =>
        exact two (s_call g c.room (c.gb h0) hm kp bi q1 h1 (plain_star (q2 b (List.mem_cons_self ..))) (plain_all _ fun d hd => q2 d (List.mem_cons_of_mem _ hd)) (Nat.le_refl _)) fun _ => rfl
    · cases h
  | .blt b x, X, sc, top, a, c, h => by
    unfold chkE at h; split at h
    · simp only [Bool.and_eq_true, decide_eq_true_eq] at h
      obtain ⟨⟨⟨⟨rfl, h0⟩, h1⟩, h2⟩, h3⟩ := h
      have q := c.bl h1
      exact two (s_blt c.room.gd c.un c.calm h0 q.1 q.2 (un_ok c h3 (chkE_ok x c h3)) (plain_star h2) (Nat.le_refl _)) fun _ => rfl
    · cases h
  | .blt2 b x z, X, sc, top, a, c, h => by
    unfold chkE at h; split at h
    · simp only [Bool.and_eq_true, decide_eq_true_eq] at h
      obtain ⟨⟨⟨⟨⟨rfl, h0⟩, h1⟩, h2⟩, h3⟩, h4⟩ := h
      have q := c.bl h0
      exact two (s_blt2 c.calm q.1 q.2 (chkE_ok x c h3).z (chkE_ok z c h4).z (plain_star h1) (plain_star h2)) fun _ => rfl
    · cases h
  | .lrng x, X, sc, top, a, c, h => by
    unfold chkE at h; split at h
    · simp only [Bool.and_eq_true, decide_eq_true_eq] at h
      obtain ⟨⟨⟨⟨⟨rfl, rfl⟩, h1⟩, h2⟩, h3⟩, h4⟩ := h
      have q := c.bl h1
      have q2 := c.bl h2
      exact two (s_lrng c.calm q.1 q.2 q2.1 q2.2 (chkE_ok x c h4).z (plain_star h3)) fun _ => rfl
    · cases h
  | .trng x, X, sc, top, a, c, h => by
    unfold chkE at h; split at h
    · simp only [Bool.and_eq_true, decide_eq_true_eq] at h
      obtain ⟨⟨⟨⟨⟨rfl, rfl⟩, h1⟩, h2⟩, h3⟩, h4⟩ := h
      have q := c.bl h1
      have q2 := c.bl h2
      exact two (s_trng c.calm q.1 q.2 q2.1 q2.2 (chkE_ok x c h4).z (plain_star h3)) fun _ => rfl
    · cases h
  | .isi x ts one, X, sc, top, a, c, h => by
    unfold chkE at h; split at h
    · rw [Bool.and_eq_true, Bool.and_eq_true, Bool.and_eq_true, Bool.and_eq_true] at h
      obtain ⟨⟨⟨⟨h0, h1⟩, h2⟩, h3⟩, h4⟩ := h
      have := of_decide_eq_true h0
      subst this
      have q := c.bl h1
      have u := un_ok c h3 (chkE_ok x c h3)
      split at h4
      · rename_i t
        unfold chkTy at h4
        split at h4
        · simp only [Bool.and_eq_true, decide_eq_true_eq] at h4
          obtain ⟨rfl, h5⟩ := h4
          have q2 := c.bl h5
          exact two (s_isi1 q.1 q.2 q2.1 q2.2 u (plain_star h2)) fun _ => rfl
        · cases h4
      · split at h4
        · simp only [Bool.and_eq_true, decide_eq_true_eq] at h4
          obtain ⟨ps, rfl, hl, ht⟩ := tys_ok c h4.2
          exact two (s_isiT q.1 q.2 ht hl h4.1 u (plain_star h2)) fun _ => rfl
        · cases h4
      · cases h4
    · cases h
  | .pop i e, X, sc, top, a, c, h => by
    unfold chkE at h; split at h
    · simp only [Bool.and_eq_true, decide_eq_true_eq] at h
      obtain ⟨⟨⟨⟨rfl, h1⟩, h2⟩, h3⟩, h4⟩ := h
      have q := c.nm h1
      exact two (s_pop q.1 q.2.1 q.2.2.1 q.2.2.2 (chkE_ok e c h4).z h2 (plain_star h3) rfl) fun _ => rfl
    · cases h
  | .tget g e, X, sc, top, a, c, h => by
    unfold chkE at h; split at h
    · simp only [Bool.and_eq_true, decide_eq_true_eq, Bool.not_eq_true'] at h
      obtain ⟨⟨⟨⟨h1, h2⟩, h3⟩, h4⟩, h5⟩ := h
      exact two (s_tget (c.gb h1) h2 (c.tb _ _ h3) (chkE_ok e c h5).z (ix_plain h4)) fun _ => rfl
    · cases h
  | .tmem g e, X, sc, top, a, c, h => by
    unfold chkE at h; split at h
    · simp only [Bool.and_eq_true, decide_eq_true_eq, Bool.not_eq_true'] at h
      obtain ⟨⟨⟨h1, h2⟩, h3⟩, h4⟩ := h
      exact ⟨s_tmem (c.gb h1) h2 (c.tb _ _ h3) (chkE_ok e c h4).z, t_tmem (c.gb h1) h2 (c.tb _ _ h3) (chkE_ok e c h4).z⟩
    · cases h
  | .dsp ks vs e, X, sc, top, a, c, h => by
    unfold chkE at h; split at h
    · simp only [Bool.and_eq_true, dspB, decide_eq_true_eq] at h
      obtain ⟨⟨⟨⟨⟨⟨⟨h1, h2⟩, h3⟩, h4⟩, h5⟩, h6⟩, h7⟩, h8⟩ := h
      obtain ⟨k1, k2⟩ := keys_ok h1
      exact two (s_dsp c.un (chkD_ok vs c h1 h5 h7) k2 (by omega) (by intro z; subst z; simp at k1; omega) (by omega) k1 h2 (chkE_ok e c h8).z (ix_noSl h6)) fun _ => rfl
    · cases h
  | .dspd ks vs e x, X, sc, top, a, c, h => by
    unfold chkE at h; split at h
    · simp only [Bool.and_eq_true, dspB, decide_eq_true_eq] at h
      obtain ⟨⟨⟨⟨⟨⟨⟨rfl, ⟨⟨⟨h1, h2⟩, h3⟩, h4⟩, h5⟩, h6⟩, h7⟩, h8⟩, h9⟩, h10⟩, h11⟩ := h
      obtain ⟨k1, k2⟩ := keys_ok h1
      exact two (s_dspd c.un (chkD_ok vs c h1 h5 h9) k2 (by omega) (by intro z; subst z; simp at k1; omega) (by omega) k1 h2 (chkE_ok e c h10).z (chkE_ok x c h11).z ⟨rfl, by rw [plain_star h7, plain_star h8]; rfl, h6, by rw [plain_star h7, plain_star h8]; rfl⟩) fun _ => rfl
    · cases h
  | .chn3 o o' o2 x y z t, X, sc, top, a, c, h => by
    unfold chkE at h; split at h
    · simp only [Bool.and_eq_true, decide_eq_true_eq] at h
      obtain ⟨⟨⟨⟨⟨⟨⟨⟨⟨⟨rfl, rfl⟩, rfl⟩, h0⟩, h00⟩, h000⟩, hs⟩, h1⟩, h2⟩, h3⟩, h4⟩ := h
      have p1 := op_ok c h1 (chkE_ok x c h1)
      have p2 := op_ok c h2 (chkE_ok y c h2)
      have p3 := op_ok c h3 (chkE_ok z c h3)
      have p4 := op_ok c h4 (chkE_ok t c h4)
      exact ⟨s_chn3 c.un p1 p2 p3 p4 h0 h00 h000 (notSet_in hs _), t_chn3 c.un p1 p2 p3 p4 h0 h00 h000 (notSet_in hs _)⟩
    · cases h
  | .setlen x, X, sc, top, a, c, h => by
    unfold chkE at h; split at h
    · simp only [Bool.and_eq_true, decide_eq_true_eq] at h
      obtain ⟨⟨⟨⟨⟨rfl, rfl⟩, h1⟩, h2⟩, h3⟩, h4⟩ := h
      have q := c.bl h1
      have q2 := c.bl h2
      exact two (s_setlen c.un c.calm q.1 q.2 q2.1 q2.2 (un_ok c h4 (chkE_ok x c h4)) (plain_star h3)) fun _ => rfl
    · cases h
  | .sset _, X, sc, top, a, c, h => by unfold chkE at h; cases h
  | .ixs x as, X, sc, top, a, c, h => by
    unfold chkE at h; split at h
    · simp only [Bool.and_eq_true, decide_eq_true_eq] at h
      obtain ⟨⟨⟨⟨⟨⟨rfl, h2⟩, h3⟩, h4⟩, h5⟩, h6⟩, h7⟩ := h
      have ho := op_ok c h4 (chkE_ok x c h4)
      have ha := pa_dn (chkL_ok as c h7) (Nat.zero_le _)
      exact two (s_ixs ho ha (fun y => base_ok h3 y X.env _) h2 (plain_star h5) (plain_star h6)) fun _ => rfl
    · cases h
  | .lnd i e, X, sc, top, a, c, h => by
    unfold chkE at h; split at h
    · have q := chkE_ok e c h
      exact ⟨s_lnd q.1, t_lnd q.2⟩
    · cases h
  | .lnd2 i j e, X, sc, top, a, c, h => by
    unfold chkE at h; split at h
    · have q := chkE_ok e c h
      exact ⟨s_lnd2 q.1, t_lnd2 q.2⟩
    · cases h
  | .stuck, X, sc, top, a, c, h => by
    have q : ∀ k, PE X a (spE X.K B (callN T G n) G .stuck k) := fun k => ⟨fun pins s σ H Q I ⟨ρ, Z, F, d, ρ', sr, ev, q⟩ => by simp only [evE] at ev; cases ev⟩
    unfold chkE at h
    split at h <;> first | exact two (q _) fun _ => rfl | cases h
theorem chkD_ok : ∀ (es : Exs) {ks : List Str} {keys : List (Option Expr)} {X : Cx} {sc : Scope} {top : Str → Bool} {l : List Expr} {p : Pos}, CT W T n G X N sc top → keysB ks keys = true → l.length = ks.length → chkD W N es sc l = true → PPs X p keys l (trsOf X.K B (callN T G n) G ks es)
  | .nil, ks, keys, X, sc, top, l, p, c, hk, hl, h => by
    unfold chkD at h; split at h
    · cases ks with
      | nil =>
        cases keys with
        | nil => exact pps_nil
        | cons _ _ => cases hk
      | cons _ _ => cases hl
    · cases h
  | .cons e es, ks, keys, X, sc, top, l, p, c, hk, hl, h => by
    unfold chkD at h; split at h
    · rw [Bool.and_eq_true] at h
      cases ks with
      | nil => cases hl
      | cons k ks =>
        unfold keysB at hk
        split at hk
        · rename_i heq
          cases heq
        · rename_i heq
          cases heq
          rw [Bool.and_eq_true] at hk
          have := of_decide_eq_true hk.1
          subst this
          exact pps_cons pe_str (chkE_ok e c h.1).z (chkD_ok es c hk.2 (by simpa using hl) h.2)
        · cases hk
    · cases h
theorem chkB_ok : ∀ (es : Exs) {X : Cx} {sc : Scope} {top : Str → Bool} {l : List Expr}, CT W T n G X N sc top → chkB W N es sc l = true →
    (∀ pos k, PE X (.BoolOp .And l pos) (spAnd X.K B (callN T G n) G es k)) ∧ (∀ pos, PW X (.BoolOp .And l pos) (spT X.K B (evAnd (callN T G n) G es))) ∧ (∀ pos k, PE X (.BoolOp .Or l pos) (spOr X.K B (callN T G n) G es k)) ∧ (∀ pos, PW X (.BoolOp .Or l pos) (spT X.K B (evOr (callN T G n) G es)))
  | .nil, X, sc, top, l, c, h => by unfold chkB at h; cases h
  | .cons e es, X, sc, top, l, c, h => by
    unfold chkB at h
    split at h
    · cases h
    · rw [Bool.and_eq_true] at h
      obtain ⟨h1, h2⟩ := h
      have q := chkE_ok e c h1
      split at h2
      · split at h2
        · exact ⟨fun pos k => s_and1 q.z, fun pos => w_and1 q.2, fun pos k => s_or1 q.z, fun pos => w_or1 q.2⟩
        · cases h2
      · obtain ⟨r1, r2, r3, r4⟩ := chkB_ok es c h2
        exact ⟨fun pos k => s_and q.z (r1 pos k), fun pos => w_and q.2 (r2 pos), fun pos k => s_or q.z (r3 pos k), fun pos => w_or q.2 (r4 pos)⟩
theorem chkL_ok : ∀ (es : Exs) {X : Cx} {sc : Scope} {top : Str → Bool} {l : List Expr}, CT W T n G X N sc top → chkL W N es sc l = true → PA X l (spL X.K B (evL (callN T G n) G es) (owL (ownT T) es))
  | .nil, X, sc, top, l, c, h => by
    unfold chkL at h; split at h
    · exact l_nil
    · cases h
  | .cons e es, X, sc, top, l, c, h => by
    unfold chkL at h; split at h
    · simp only [Bool.and_eq_true] at h
      exact l_cons (pe_dn (chkE_ok e c h.1.2).1 ow_min.1) (pa_dn (chkL_ok es c h.2) ow_min.2) (plain_star h.1.1)
    · cases h
theorem chkA_ok : ∀ (es : Exs) {X : Cx} {sc : Scope} {top : Str → Bool} {l : List Expr}, CT W T n G X N sc top → chkA W N es sc l = true → PA X l (spA X.K B (evA (callN T G n) G es)) ∧ ∀ a ∈ l, plainB a = true
  | .nil, X, sc, top, l, c, h => by
    unfold chkA at h; split at h
    · exact ⟨a_nil, fun _ h => by cases h⟩
    · cases h
  | .cons e es, X, sc, top, l, c, h => by
    unfold chkA at h
    split at h
    · rename_i a r
      rw [Bool.and_eq_true, Bool.and_eq_true] at h
      obtain ⟨⟨h0, h1⟩, h2⟩ := h
      obtain ⟨q1, q2⟩ := chkA_ok es c h2
      refine ⟨?_, fun b hb => (List.mem_cons.mp hb).elim (fun e => e ▸ h0) (q2 b)⟩
      split at h1
      · split at h1
        · have q := c.nm h1
          exact a_io q.1 q.2.1 q.2.2.1 q.2.2.2 q1
        · cases h1
      · split at h1
        · have q := c.nm h1
          exact a_scr q.1 q.2.1 q.2.2.1 q.2.2.2 q1
        · cases h1
      · split at h1
        · have q := c.nm h1
          exact a_exc q.1 q.2.1 q.2.2.1 q.2.2.2 q1
        · cases h1
      · rename_i n1 n2 n3
        exact a_now (chkE_ok e c h1).z q1 (plain_star h0) fun i => ⟨n1 i, n2 i, n3 i⟩
    · cases h
theorem chkPt_ok : ∀ (es : Exs) {X : Cx} {sc : Scope} {top : Str → Bool} {o : Option Expr}, CT W T n G X N sc top → chkPt W N es sc o = true → PO X o (spP X.K B (partE (evL (callN T G n) G es)))
  | .nil, X, sc, top, o, c, h => by
    unfold chkPt at h; split at h
    · exact p_none
    · cases h
  | .cons e es, X, sc, top, o, c, h => by
    unfold chkPt at h
    split at h
    · split at h
      · exact p_some (chkE_ok e c h).z
      · cases h
    · cases h
theorem chkTs_ok : ∀ (es : Exs) {X : Cx} {sc : Scope} {top : Str → Bool} {l : List Expr}, CT W T n G X N sc top → chkTs W N es sc l = true → PTs X l (spT X.K B (evAnd (callN T G n) G es))
  | .nil, X, sc, top, o, c, h => by
    unfold chkTs at h; split at h
    · exact ts_nil
    · cases h
  | .cons e es, X, sc, top, o, c, h => by
    unfold chkTs at h
    split at h
    · split at h
      · exact ts_one (chkE_ok e c h).2
      · cases h
    · cases h
theorem chkI_ok : ∀ (it : It) {X : Cx} {sc : Scope} {top : Str → Bool} {a tg : Expr}, CT W T n G X N sc top → chkI W N it sc a tg = true → PI X tg a (spI X.K B (evI (callN T G n) G it))
  | .seq e, X, sc, top, a, tg, c, h => by
    unfold chkI at h
    have q : PE X a (spE X.K B (callN T G n) G e 0) := (chkE_ok e c h).z
    exact i_seq q (pi_list q) (pi_tup q)
  | .rng e, X, sc, top, a, tg, c, h => by
    unfold chkI at h; split at h
    · simp only [Bool.and_eq_true, decide_eq_true_eq] at h
      obtain ⟨⟨⟨rfl, h0⟩, h1⟩, h2⟩ := h
      have q := c.bl h0
      exact i_rng q.1 q.2 (chkE_ok e c h2).z (plain_star h1)
    · cases h
  | .rng2 e e2, X, sc, top, a, tg, c, h => by
    unfold chkI at h; split at h
    · simp only [Bool.and_eq_true, decide_eq_true_eq] at h
      obtain ⟨⟨⟨⟨⟨rfl, h0⟩, h1⟩, h2⟩, h3⟩, h4⟩ := h
      have q := c.bl h0
      exact i_rng2 q.1 q.2 (chkE_ok e c h3).z (chkE_ok e2 c h4).z (by rw [plain_star h1, plain_star h2]; rfl) (plain_star h2)
    · cases h
  | .rng3 e e2 e3, X, sc, top, a, tg, c, h => by
    unfold chkI at h; split at h
    · simp only [Bool.and_eq_true, decide_eq_true_eq] at h
      obtain ⟨⟨⟨⟨⟨⟨⟨rfl, h0⟩, h1⟩, h2⟩, h3⟩, h4⟩, h5⟩, h6⟩ := h
      have q := c.bl h0
      exact i_rng3 q.1 q.2 (chkE_ok e c h4).z (chkE_ok e2 c h5).z (chkE_ok e3 c h6).z (plain_star h1) (plain_star h2) (plain_star h3)
    · cases h
  | .enum e, X, sc, top, a, tg, c, h => by
    unfold chkI at h; split at h
    · simp only [Bool.and_eq_true, decide_eq_true_eq] at h
      obtain ⟨⟨⟨⟨rfl, h0⟩, h1⟩, h2⟩, h3⟩ := h
      have q := c.bl h0
      cases tg with
      | Tuple es kk tp => exact i_enum2 q.1 q.2 (chkE_ok e c h3).z (plain_star h1)
      | _ => cases h2
    · cases h
  | .zip e e2, X, sc, top, a, tg, c, h => by
    unfold chkI at h; split at h
    · simp only [Bool.and_eq_true, decide_eq_true_eq] at h
      obtain ⟨⟨⟨⟨⟨⟨rfl, h0⟩, h1⟩, h2⟩, h3⟩, h4⟩, h5⟩ := h
      have q := c.bl h0
      cases tg with
      | Tuple es kk tp => exact i_zip q.1 q.2 (chkE_ok e c h4).z (chkE_ok e2 c h5).z (plain_star h1) (plain_star h2)
      | _ => cases h3
    · cases h
end
end
end
end BW

/-! BwChk5: the checker's word: statements. -/
namespace BW
noncomputable section
open PySem PySem.Spec PyProof.Rows L2
section
variable {W : Wd} {T : Tab} {n : Nat} {G : Nat → D} {N : List Str} {B : Bk} {X : Cx} {sc : Scope} {top : Str → Bool}
theorem CT.bk (c : CT W T n G X N sc top) : X.env.blockKind = .function := by
  unfold PySem.Env.blockKind
  rw [c.scope, c.kind]
  rfl
theorem CT.ko (c : CT W T n G X N sc top) (x : Str) : X.env.kindOf x = sc.names.lookup x := by
  unfold PySem.Env.kindOf
  rw [c.scope]
theorem notLc_sw {a : Expr} (h : notLcB a = true) (t : Option Expr) (l : Nat) (env : PySem.Env) : swapsWith a t l env = pure false := by
  cases a <;> first | rfl | cases h
theorem lc_sw (c : CT W T n G X N sc top) {elt : Expr} {gs : List Comprehension} {s : Scope} {pos xp : Pos} {x : Str} {l : Nat} : swapsWith (.ListComp elt gs s pos) (some (.Name x xp)) l X.env = pure (swB sc x xp.line (.ListComp elt gs s pos)) := by
  show (pure (X.env.blockKind == .function && X.env.kindOf x == some .local && xp.line == (Expr.ListComp elt gs s pos).pos.line && !(s.names.any fun (n, k) => n == x && (k == .local || k == .cell))) : Sem Bool) = _
  rw [c.bk, c.ko]
  unfold swB
  congr 1
  rw [show (ScopeKind.function == ScopeKind.function) = true from rfl, Bool.true_and]
  congr 2
  cases sc.names.lookup x with
  | none => rfl
  | some k => cases k <;> rfl
theorem swS_name {x : Str} {p : Pos} {a : Expr} {env : PySem.Env} : swappedStores [.Name x p] a env = pure none := by
  cases a <;> rfl
theorem swS_sub {o i : Expr} {p : Pos} {a : Expr} {env : PySem.Env} : swappedStores [.Subscript o i p] a env = pure none := by
  cases a <;> rfl
theorem ifx {α : Type} {c3 c4 c5 : Prop} [Decidable c3] [Decidable c4] [Decidable c5] {nm : α} {r : Option α} {bad : Sem (Option α)} (h : (if c3 then some none else if c4 then some none else if c5 then none else some (some nm)) = some r) : (if c3 then pure none else if c4 then pure none else if c5 then bad else pure (some nm) : Sem (Option α)) = pure r := by
  by_cases h3 : c3
  · rw [if_pos h3] at h ⊢; cases h; rfl
  · rw [if_neg h3] at h ⊢
    by_cases h4 : c4
    · rw [if_pos h4] at h ⊢; cases h; rfl
    · rw [if_neg h4] at h ⊢
      by_cases h5 : c5
      · rw [if_pos h5] at h; cases h
      · rw [if_neg h5] at h ⊢; cases h; rfl
theorem swS_tup (c : CT W T n G X N sc top) {ts vs : List Expr} {k k2 : Nat} {p p2 : Pos} {r : Option (List Str)} (h : swP sc ts vs = some r) : swappedStores [.Tuple ts k p] (.Tuple vs k2 p2) X.env = pure r := by
  unfold swP at h
  unfold swappedStores
  simp only [c.bk, c.ko]
  split at h
  · rename_i h1
    cases h
    have : (!(ts.length == 2 || ts.length == 3) || vs.length != ts.length || ScopeKind.function != ScopeKind.function) = true := by
      simp only [Bool.or_eq_true] at h1 ⊢
      exact .inl h1
    simp only [this, if_true]
  · rename_i h1
    have : (!(ts.length == 2 || ts.length == 3) || vs.length != ts.length || ScopeKind.function != ScopeKind.function) = false := by
      have : (ScopeKind.function != ScopeKind.function) = false := rfl
      rw [this, Bool.or_false]
      simpa using h1
    simp only [this, Bool.false_eq_true, if_false]
    split at h
    · rename_i h2
      cases h
      exact if_pos h2
    · rename_i h2
      refine (if_neg h2).trans ?_
      exact ifx h
end
end
end BW

/-! BwChk6: the checker's word: statements, by recursion. -/
namespace BW
noncomputable section
open PySem PySem.Spec PyProof.Rows L2
section
variable {W : Wd} {T : Tab} {n : Nat} {G : Nat → D} {N : List Str} {B : Bk} {X : Cx} {sc : Scope} {kr : Nat}
theorem pr_lc {i : Nat} {rp : List At} {elt : Expr} {gs : List Comprehension} {scope : Scope} {pos : Pos} (h : chkPr N sc i rp (.ListComp elt gs scope pos) = true) : False := by
  cases rp <;> (unfold chkPr at h; cases h)
theorem asg_lc (c : CT W T n G X N sc allT) {k i : Nat} {e : Ex} {x : Str} {xp pos spos : Pos} {elt : Expr} {gs : List Comprehension} {scope : Scope} (ht : tgB allT N sc i x = true) (hk : k ≤ ow (ownT T) e) (h : chkE W N e sc (.ListComp elt gs scope pos) = true) :
    PS X (.Assign [.Name x xp] (.ListComp elt gs scope pos) spos) (spS X.K B kr (evS (callN T G n) G (ownT T) (.asg k i e))) := by
  have q := c.tg ht
  cases hsw : swB sc x xp.line (.ListComp elt gs scope pos) with
  | false => exact s_asg c.hN q.1 q.2.1 q.2.2 (pe_dn (chkE_ok e c h).1 hk) ((lc_sw c (l := spos.line)).trans (congrArg pure hsw)) swS_name
  | true =>
    cases e with
    | comp e t it cs own =>
      unfold chkE at h; split at h
      · rename_i heq
        cases heq
        simp only [Bool.and_eq_true, decide_eq_true_eq, List.all_eq_true] at h
        obtain ⟨⟨⟨⟨⟨⟨⟨rfl, h0⟩, h1⟩, h2⟩, h3⟩, h4⟩, h5⟩, h6⟩ := h
        have hl : X.env.scope.names.lookup x = some .local := by
          rw [c.scope]
          simp only [swB, Bool.and_eq_true, decide_eq_true_eq] at hsw
          exact hsw.1.1
        refine (ps_setLc (wi := spI X.K B (evI (callN T G n) G it)) (g := spG X.K B t) (tt := spT X.K B (evAnd (callN T G n) G cs)) (te := spE X.K B (callN T G n) G e (ow (ownT T) e)) c.calm c.hN q.1 hl ((lc_sw c (l := spos.line)).trans (congrArg pure hsw)) (chkI_ok it c h3) (c.ok h1) (fun s H A cl fp => chkG_ok (c.blk h1 s H A cl fp) t h4) (fun s H A cl fp => chkTs_ok cs (c.blk h1 s H A cl fp) h5) (fun s H A cl fp => (chkE_ok e (c.blk h1 s H A cl fp) h6).1) (notSet_for h0)).imp fun Dn σ H hh => ?_
        refine comp_fin ?_ h2 (by simp only [ow] at hk; exact hk) _ _ _ (asg_fin hh)
        rw [List.map_map]
        exact (List.map_congr_left fun _ _ => rfl).trans (List.map_id _)
      · cases h
    | pth i p => unfold chkE at h; exact (pr_lc h).elim
    | _ => unfold chkE at h; first | cases h | (split at h <;> first | cases h | (rename_i heq; cases heq))
theorem notLc_sole {a t : Expr} {l : Nat} {env : PySem.Env} (h : notLcB a = true) : swapsWithSole [t] a l env = pure false := by
  unfold swapsWithSole
  exact notLc_sw h (some t) l env
theorem tup_sole {a : Expr} {es : List Expr} {kk : Nat} {pt : Pos} {l : Nat} {env : PySem.Env} : swapsWithSole [.Tuple es kk pt] a l env = pure false := by
  unfold swapsWithSole
  cases a <;> rfl
theorem sub_asg {o r : Expr} {p : Pos} {env : PySem.Env} (h : ixB r = true) : ∀ v, assign (.Subscript o r p) env v = (do
      let ov ← holding [v] (eval o env)
      let iv ← holding [v, ov] (eval r env)
      standAt p
      holding [v, ov, iv] (setItem ov iv v)
      release [v, ov, iv] []) := by intro v; cases r <;> first | rfl | cases h
theorem pr_base {i : Nat} {rp : List At} {a : Expr} (h : chkPr N sc i rp a = true) (y : Str) (env : PySem.Env) : attributeBase a y env (eval a env) = eval a env := by
  cases rp <;> (unfold chkPr at h; split at h <;> first | rfl | cases h)
/-- a def's own frame -/
structure Fr (X : Cx) : Prop where
  stk : X.stack = X.env :: X.outer
  fr : X.env.frame = some X.env.locals
  ex : X.ex = []
theorem Fr.nox (f : Fr X) : Fr X.nox := ⟨f.stk, f.fr, f.ex⟩
theorem Fr.tr (f : Fr X) (pn : List (Addr × Obj)) (xe : Value → Shared → Prop) : Fr (X.tr pn xe) := ⟨f.stk, f.fr, f.ex⟩
theorem CT.nox {top : Str → Bool} (c : CT W T n G X N sc top) : CT W T n G X.nox N sc top := { c with pass := PassesOwn.never }
theorem CT.tr {top : Str → Bool} (c : CT W T n G X N sc top) {pn : List (Addr × Obj)} {xe : Value → Shared → Prop} (p : PassesOwn (model X.prog X.w) X.A X.env xe) : CT W T n G (X.tr pn xe) N sc top := { c with pass := p }
theorem sub_aug {r : Expr} (h : ixB r = true) : ∀ ov iv new, augStore r ov iv new = (do holding [new, ov, iv] (setItem ov iv new); release [new, ov, iv] []; pure .next) := by
  intro ov iv new
  cases r <;> first | rfl | cases h
theorem call_rs {Wx : WX} {f : Nat} {as : Exs} {a : Expr} (c : CT W T n G X N sc allT) (tk : Takes X Wx) (h : chkE W N (.call f as) sc a = true) :
    PE X a (fun σ H _ => rpS X.K B Wx (rsC (callN T G n) G f as) σ H) ∧ (∀ {y : Str} {yp : Pos} {l : Nat}, swapsWith a (some (.Name y yp)) l X.env = pure false) ∧ True := by
  unfold chkE at h; split at h
  · simp only [Bool.and_eq_true, decide_eq_true_eq, Bool.not_eq_true'] at h
    obtain ⟨⟨⟨h0, h1⟩, h2⟩, h3⟩ := h
    obtain ⟨fa, fd, ps, g, hm, kp, bi⟩ := c.rn _ _ h2
    obtain ⟨q1, q2⟩ := chkA_ok (B := B) as c h3
    refine ⟨?_, fun {y yp l} => rfl, trivial⟩
    rename_i l _
    cases l with
    | nil =>
      cases as with
      | nil =>
        refine (r_call0 g c.room (c.gb h0) hm kp bi tk h1).imp fun σ H Q h => ?_
        obtain ⟨ρ, Z, F, l, ρ', s, e, q⟩ := call_rfin h
        simp only [evA] at e
        cases e
        exact q [] H Z F s Ps.refl rfl
      | cons => unfold chkA at h3; cases h3
    | cons b l =>
      exact (r_call g c.room (c.gb h0) hm kp bi tk q1 h1 (plain_star (q2 b (List.mem_cons_self ..))) (plain_all _ fun d hd => q2 d (List.mem_cons_of_mem _ hd))).imp fun σ H Q h => call_rfin h
  · cases h
theorem comp_rs {Wx : WX} {f : Nat} {as cs : Exs} {e : Ex} {t : Tg} {own : List Nat} {a : Expr} (c : CT W T n G X N sc allT) (tk : Takes X Wx) (h : chkE W N (.comp e t (.seq (.call f as)) cs own) sc a = true) :
    PE X a (fun σ H _ => rpS X.K B Wx (rsC (callN T G n) G f as) σ H) := by
  unfold chkE at h; split at h
  · simp only [Bool.and_eq_true, decide_eq_true_eq, List.all_eq_true] at h
    obtain ⟨⟨⟨⟨⟨⟨⟨rfl, h0⟩, h1⟩, h2⟩, h3⟩, h4⟩, h5⟩, h6⟩ := h
    unfold chkI at h3
    exact r_comp (gg := spG X.K B t) (tt := spT X.K B (evAnd (callN T G n) G cs)) (te := spE X.K B (callN T G n) G e (ow (ownT T) e)) c.calm c.hN (call_rs c tk h3).1 (c.ok h1) (fun s H A cl fp => chkG_ok (B := B) (c.blk h1 s H A cl fp) t h4) (fun s H A cl fp => chkTs_ok (B := B) cs (c.blk h1 s H A cl fp) h5) (fun s H A cl fp => (chkE_ok (B := B) e (c.blk h1 s H A cl fp) h6).1) (notSet_for h0)
  · cases h
mutual
theorem chkS_ok : ∀ (s : Sm) {X : Cx} {st : Stmt}, CT W T n G X N sc allT → Fr X → chkS W N kr sc s st = true → PS X st (spS X.K B kr (evS (callN T G n) G (ownT T) s))
  | .asg k i e, X, st, c, fr, h => by
    unfold chkS at h; split at h
    · rw [Bool.and_eq_true, Bool.and_eq_true, Bool.and_eq_true] at h
      obtain ⟨⟨⟨h1, h2⟩, h3⟩, h4⟩ := h
      have hk : k ≤ ow (ownT T) e := by rw [← c.own]; exact of_decide_eq_true h2
      have q := c.tg h1
      rename_i a _
      by_cases hn : notLcB a = true
      · exact s_asg c.hN q.1 q.2.1 q.2.2 (pe_dn (chkE_ok e c h3).1 hk) (notLc_sole hn) swS_name
      · rw [Bool.or_eq_true] at h4
        rcases h4 with h4 | h4
        · exact absurd h4 hn
        · split at h4
          · exact asg_lc c h1 hk h3
          · cases h4
    · cases h
  | .asgT ts e, X, st, c, fr, h => by
    unfold chkS at h; split at h
    · rw [Bool.and_eq_true, Bool.and_eq_true] at h
      obtain ⟨⟨h2, h3⟩, h4⟩ := h
      refine s_asgT (chkE_ok e c h2).z (chkG_ok c _ h3) tup_sole ?_
      split at h4
      · exact swS_tup c (of_decide_eq_true h4)
      · rename_i a _ _ hne
        cases a <;> first | rfl | exact (hne _ _ _ rfl).elim
    · cases h
  | .par i j x y ki kj, X, st, c, fr, h => by
    unfold chkS at h; split at h
    · simp only [Bool.and_eq_true, Bool.or_eq_true, decide_eq_true_eq] at h
      obtain ⟨⟨⟨⟨⟨⟨h6, h7⟩, h9⟩, h10⟩, h11⟩, h12⟩, h⟩ := h
      rw [c.own] at h9 h10
      rcases h with ⟨⟨⟨⟨⟨h1, h2⟩, h3⟩, h4⟩, h5⟩, h8⟩ | ⟨⟨h1, h2⟩, h8⟩
      · exact s_par c.calm c.hN (by rw [c.hn]; exact h1) (by rw [c.hn]; exact h2) h3 (by rw [c.scope]; exact h4) (by rw [c.scope]; exact h5) (pe_dn (chkE_ok x c h11).1 h9) (pe_dn (chkE_ok y c h12).1 h10) (plain_star h6) (plain_star h7) (swS_tup c h8)
      · exact s_parc c.calm c.hN (c.tg h1).1 (c.tg h2).1 (c.tg h1).2.1 (c.tg h2).2.1 (c.tg h1).2.2 (c.tg h2).2.2 (pe_dn (chkE_ok x c h11).1 h9) (pe_dn (chkE_ok y c h12).1 h10) (plain_star h6) (plain_star h7) rfl (swS_tup c h8)
    · cases h
  | .aug i e, X, st, c, fr, h => by
    unfold chkS at h; split at h
    · rw [Bool.and_eq_true] at h
      have q := c.tg h.1
      exact s_aug c.hN q.1 q.2.1 q.2.2 (chkE_ok e c h.2).z
    · cases h
  | .expr e, X, st, c, fr, h => by
    unfold chkS at h; split at h
    · rw [Bool.and_eq_true] at h
      exact s_expr (chkE_ok e c h.2).z (notLc_sw h.1 _ _ _)
    · cases h
  | .mut i p m as, X, st, c, fr, h => by
    unfold chkS at h; split at h
    · rw [Bool.and_eq_true, Bool.and_eq_true] at h
      obtain ⟨⟨h1, h2⟩, h3⟩ := h
      have hp := pth_ok (B := B) c h2
      have hb := pr_base h2
      split at h3
      · simp only [Bool.and_eq_true, decide_eq_true_eq] at h3
        obtain ⟨⟨rfl, h4⟩, h5⟩ := h3
        exact s_append hp (fun k hk => pe_dn (chkE_ok _ c h5).1 hk) h1 (plain_star h4) (hb _ _) rfl
      · simp only [Bool.and_eq_true, decide_eq_true_eq] at h3
        obtain ⟨⟨rfl, h4⟩, h5⟩ := h3
        exact s_extend hp (chkE_ok _ c h5).z h1 (plain_star h4) (hb _ _) rfl
      · simp only [Bool.and_eq_true, decide_eq_true_eq] at h3
        obtain ⟨⟨⟨⟨rfl, h4⟩, h5⟩, h6⟩, h7⟩ := h3
        exact s_insert hp (chkE_ok _ c h6).z (chkE_ok _ c h7).z h1 (plain_star h4) (plain_star h5) (hb _ _) rfl
      · have := of_decide_eq_true h3
        subst this
        exact s_reverse hp h1 (hb _ _) rfl
      · have := of_decide_eq_true h3
        subst this
        exact s_clear hp h1 (hb _ _) rfl
      · cases h3
    · cases h
  | .seti i p x e, X, st, c, fr, h => by
    unfold chkS at h; split at h
    · rw [Bool.and_eq_true, Bool.and_eq_true, Bool.and_eq_true, Bool.and_eq_true] at h
      obtain ⟨⟨⟨⟨h1, h2⟩, h3⟩, h5⟩, h4⟩ := h
      have he := chkE_ok (B := B) e c h3
      split at h4
      · change chkPr N sc i [] _ = true at h2
        unfold chkPr at h2
        split at h2
        · have q := c.nm h2
          exact s_seti0 q.1 q.2.1 q.2.2.1 q.2.2.2 (fun k hk => pe_dn he.1 hk) (chkE_ok x c h4).z (sub_asg h5) (notLc_sole h1) swS_sub rfl
        · cases h2
      · split at h4
        · rename_i y hy
          exact s_setiP hy (pth_ok c h2) (fun k hk => pe_dn he.1 hk) (at_ok c h4) (sub_asg h5) (notLc_sole h1) swS_sub rfl
        · cases h4
    · cases h
  | .augi i x e, X, st, c, fr, h => by
    unfold chkS at h; split at h
    · rw [Bool.and_eq_true, Bool.and_eq_true, Bool.and_eq_true] at h
      obtain ⟨⟨⟨h1, h2⟩, h3⟩, h4⟩ := h
      have q := c.nm h1
      exact s_augi q.1 q.2.1 q.2.2.1 q.2.2.2 (chkE_ok e c h2).z (chkE_ok x c h3).z (sub_aug h4)
    · cases h
  | .rse cn, X, st, c, fr, h => ⟨fun pins s σ H Dn I ⟨ρ, Z, F, r, sr, ev, fin⟩ => by simp only [evS] at ev; cases ev⟩
  | .trx b cn i j, X, st, c, fr, h => by
    unfold chkS at h; split at h
    · simp only [Bool.and_eq_true, decide_eq_true_eq, Bool.not_eq_true'] at h
      obtain ⟨⟨⟨⟨⟨⟨⟨⟨h1, rfl⟩, h3⟩, h4⟩, h5⟩, rfl⟩, h7⟩, h8⟩, h9⟩ := h
      have nn := c.nm h7
      have q := c.tg h9
      have g := c.xc _ h5
      refine s_trx (kr := kr) fr.stk fr.fr fr.ex c.hN nn.1 (by unfold PySem.Env.kindOf; rw [c.scope]; exact h8) ⟨c.gb h3, h4, .inl g.mg⟩ g.mem g.ok.ns q.1 q.2.1 q.2.2 nn.2.2.1 nn.2.2.2 (chkSs_ok b c.nox fr.nox h1) fun W' pn xe tk ps => ?_
      exact rsSs_ok b (c.tr ps) (fr.tr pn xe) tk h1
    · cases h
  | .ite e a b ks, X, st, c, fr, h => by
    unfold chkS at h; split at h
    · simp only [Bool.and_eq_true] at h
      exact s_if (chkE_ok e c h.1.1).2 (chkSs_ok a c fr h.1.2) (chkSs_ok b c fr h.2)
    · cases h
  | .for_ t it b ks, X, st, c, fr, h => by
    unfold chkS at h; split at h
    · simp only [Bool.and_eq_true] at h
      obtain ⟨⟨⟨h1, h2⟩, h3⟩, h4⟩ := h
      exact s_for c.hp c.calm (chkI_ok it c h2) (chkG_ok c t h3) (chkSs_ok b c fr h4) (notSet_for h1)
    · cases h
  | .mvl x es k b ks, X, st, c, fr, h => by
    unfold chkS at h; split at h
    · simp only [Bool.and_eq_true, decide_eq_true_eq] at h
      obtain ⟨⟨⟨⟨h1, h2⟩, h3⟩, h4⟩, h5⟩ := h
      rw [c.own] at h3
      exact s_mvl c.hp c.calm c.hN (c.tg h1).1 (c.tg h1).2.1 (c.tg h1).2.2 (pa_dn (chkL_ok es c h2) h3) h4 (chkSs_ok b c fr h5) (notSet_for rfl)
    · cases h
  | .whl e b ks, X, st, c, fr, h => by
    unfold chkS at h; split at h
    · simp only [Bool.and_eq_true] at h
      exact s_whl c.hp (chkE_ok e c h.1).2 (chkSs_ok b c fr h.2)
    · cases h
  | .ret e, X, st, c, fr, h => by
    unfold chkS at h; split at h
    · simp only [Bool.and_eq_true, decide_eq_true_eq] at h
      rw [c.own] at h
      exact s_ret (pe_dn (chkE_ok e c h.2).1 h.1)
    · cases h
  | .retN, X, st, c, fr, h => by
    unfold chkS at h; split at h
    · exact s_retN
    · cases h
  | .pass, X, st, c, fr, h => by
    unfold chkS at h; split at h
    · exact s_pass
    · cases h
  | .brk, X, st, c, fr, h => by
    unfold chkS at h; split at h
    · exact s_brk
    · cases h
  | .cont, X, st, c, fr, h => by
    unfold chkS at h; split at h
    · exact s_cont
    · cases h
  | .stuck, X, st, c, fr, h => ⟨fun pins s σ H Dn I ⟨ρ, Z, F, r, sr, ev, fin⟩ => by simp only [evS] at ev; cases ev⟩
  | .par3 i j l es, X, st, c, fr, h => by
    unfold chkS at h; split at h
    · simp only [Bool.and_eq_true, decide_eq_true_eq] at h
      obtain ⟨⟨⟨⟨⟨⟨⟨⟨⟨⟨h1, h2⟩, h3⟩, h4⟩, h5⟩, h6⟩, h7⟩, h8⟩, h9⟩, h10⟩, h11⟩ := h
      exact s_par3 c.calm c.hN (by rw [c.hn]; exact h1) (by rw [c.hn]; exact h2) (by rw [c.hn]; exact h3) h4 h5 h6 (by rw [c.scope]; exact h7) (by rw [c.scope]; exact h8) (by rw [c.scope]; exact h9) (pa_dn (chkL_ok es c h11) (Nat.zero_le _)) (swS_tup c h10)
    · cases h
theorem chkSs_ok : ∀ (s : Sms) {X : Cx} {st : List Stmt}, CT W T n G X N sc allT → Fr X → chkSs W N kr sc s st = true → PSs X st (spS X.K B kr (evSs (callN T G n) G (ownT T) s))
  | .nil, X, st, c, fr, h => by
    unfold chkSs at h; split at h
    · exact ss_nil
    · cases h
  | .cons s ss, X, st, c, fr, h => by
    unfold chkSs at h; split at h
    · rw [Bool.and_eq_true] at h
      exact ss_cons (chkS_ok s c fr h.1) (chkSs_ok ss c fr h.2)
    · cases h
theorem rsS_ok : ∀ (s : Sm) {X : Cx} {st : Stmt} {Wx : WX}, CT W T n G X N sc allT → Fr X → Takes X Wx → chkS W N kr sc s st = true → PS X st (fun _ => rpS X.K B Wx (rsS (callN T G n) G (ownT T) s))
  | .asg k i e, X, st, Wx, c, fr, tk, h => by
    unfold chkS at h; split at h
    · rw [Bool.and_eq_true, Bool.and_eq_true, Bool.and_eq_true] at h
      obtain ⟨⟨⟨h1, h2⟩, h3⟩, h4⟩ := h
      have q := c.tg h1
      cases e with
      | call f as => exact r_asg c.hN q.1 q.2.1 q.2.2 (call_rs c tk h3).1 (call_rs (B := B) c tk h3).2.1
      | _ => exact r_none fun ρ => by simp only [rsS]
    · cases h
  | .asgT ts e, X, st, Wx, c, fr, tk, h => by
    unfold chkS at h; split at h
    · rw [Bool.and_eq_true, Bool.and_eq_true] at h
      obtain ⟨⟨h2, h3⟩, h4⟩ := h
      cases e with
      | call f as =>
        refine r_asgT (call_rs c tk h2).1 (chkG_ok (B := B) c _ h3) tup_sole ?_
        split at h4
        · exact swS_tup c (of_decide_eq_true h4)
        · rename_i a _ _ hne
          cases a <;> first | rfl | exact (hne _ _ _ rfl).elim
      | _ => exact r_none fun ρ => by simp only [rsS]
    · cases h
  | .expr e, X, st, Wx, c, fr, tk, h => by
    unfold chkS at h; split at h
    · rw [Bool.and_eq_true] at h
      cases e with
      | call f as => exact r_expr (call_rs c tk h.2).1 (notLc_sw h.1 _ _ _)
      | _ => exact r_none fun ρ => by simp only [rsS]
    · cases h
  | .ret e, X, st, Wx, c, fr, tk, h => by
    unfold chkS at h; split at h
    · simp only [Bool.and_eq_true, decide_eq_true_eq] at h
      cases e with
      | call f as => exact r_ret (call_rs c tk h.2).1
      | comp e t it cs own =>
        cases it with
        | seq e2 =>
          cases e2 with
          | call f as => exact r_ret (comp_rs c tk h.2)
          | _ => exact r_none fun ρ => by simp only [rsS]
        | _ => exact r_none fun ρ => by simp only [rsS]
      | _ => exact r_none fun ρ => by simp only [rsS]
    · cases h
  | .ite e a b ks, X, st, Wx, c, fr, tk, h => by
    unfold chkS at h; split at h
    · simp only [Bool.and_eq_true] at h
      exact r_if (chkE_ok e c h.1.1).2 (rsSs_ok a c fr tk h.1.2) (rsSs_ok b c fr tk h.2)
    · cases h
  | .rse cn, X, st, Wx, c, fr, tk, h => by
    unfold chkS at h; split at h
    · simp only [Bool.and_eq_true, decide_eq_true_eq, Bool.not_eq_true'] at h
      obtain ⟨⟨⟨⟨rfl, h1⟩, h2⟩, h3⟩, h4⟩ := h
      have g := c.xc _ h3
      exact r_rse c.calm tk (g.ex h4) g.mg g.kp g.sb g.ty g.ok (c.gb h1) h2
    · cases h
  | .par .., _, _, _, _, _, _, _ => r_none fun ρ => by simp only [rsS]
  | .aug .., _, _, _, _, _, _, _ => r_none fun ρ => by simp only [rsS]
  | .mut .., _, _, _, _, _, _, _ => r_none fun ρ => by simp only [rsS]
  | .seti .., _, _, _, _, _, _, _ => r_none fun ρ => by simp only [rsS]
  | .augi .., _, _, _, _, _, _, _ => r_none fun ρ => by simp only [rsS]
  | .for_ .., _, _, _, _, _, _, _ => r_none fun ρ => by simp only [rsS]
  | .mvl .., _, _, _, _, _, _, _ => r_none fun ρ => by simp only [rsS]
  | .whl .., _, _, _, _, _, _, _ => r_none fun ρ => by simp only [rsS]
  | .retN, _, _, _, _, _, _, _ => r_none fun ρ => by simp only [rsS]
  | .pass, _, _, _, _, _, _, _ => r_none fun ρ => by simp only [rsS]
  | .brk, _, _, _, _, _, _, _ => r_none fun ρ => by simp only [rsS]
  | .cont, _, _, _, _, _, _, _ => r_none fun ρ => by simp only [rsS]
  | .stuck, _, _, _, _, _, _, _ => r_none fun ρ => by simp only [rsS]
  | .par3 .., _, _, _, _, _, _, _ => r_none fun ρ => by simp only [rsS]
  | .trx .., _, _, _, _, _, _, _ => r_none fun ρ => by simp only [rsS]
theorem rsSs_ok : ∀ (s : Sms) {X : Cx} {st : List Stmt} {Wx : WX}, CT W T n G X N sc allT → Fr X → Takes X Wx → chkSs W N kr sc s st = true → PSs X st (fun _ => rpS X.K B Wx (rsSs (callN T G n) G (ownT T) s))
  | .nil, X, st, Wx, c, fr, tk, h => by
    unfold chkSs at h; split at h
    · exact r_nil
    · cases h
  | .cons s ss, X, st, Wx, c, fr, tk, h => by
    unfold chkSs at h; split at h
    · rw [Bool.and_eq_true] at h
      exact r_cons (kr := kr) (chkS_ok s c fr h.1) (rsS_ok s c fr tk h.1) (chkSs_ok ss c fr h.2) (rsSs_ok ss c fr tk h.2)
    · cases h
end
end
end
end BW

/-! BwEnd1: all defs of a text keep the small language's word. -/
namespace BW
noncomputable section
open PySem PySem.Spec PyProof.Rows L2
structure BDef where
  id : Nat
  x : Str
  y : Str
  st : Stmt
  N : List Str
  ps : List Str
  m : MDef
def defAt (ds : List BDef) (f : Nat) : Option BDef := ds.find? fun d => d.id == f
def tabOf (ds : List BDef) : Tab := fun f => (defAt ds f).map (·.m)
def fnsOf (ds : List BDef) : List (Str × Nat) := ds.map fun d => (d.x, d.id)
def idsOk (ds : List BDef) : Bool := ds.all fun d => decide ((defAt ds d.id).map (·.x) = some d.x) && decide (d.id < rsK)
def wdOf (ds : List BDef) (gls tbs : List (Str × Nat)) (cs : List Str) : Wd := ⟨fnsOf ds, gls, tbs, cs, ownT (tabOf ds)⟩
def scB (d : BDef) : Bool :=
  decide ((defScope d.st).kind = .function) && !(defScope d.st).isCoroutine && !(defScope d.st).isGenerator && decide d.N.Nodup && decide (d.N.take d.ps.length = d.ps) &&
    d.ps.all (fun x => decide ((defScope d.st).names.lookup x = some .local) || decide ((defScope d.st).names.lookup x = some .cell)) && (defScope d.st).names.all fun y => !decide (y.2 = .free)
def okD (W : Wd) (d : BDef) : Bool := scB d && decide (d.m.np = d.ps.length) && decide (d.m.nl = d.N.length) && chkSs W d.N d.m.own (defScope d.st) d.m.body (defBody d.st)
def BindOk (d : BDef) : Prop := ∀ (kV doc pm : Value) (an : Option Addr) (cdv ct : Value) (us : List Value), us.length = d.ps.length → bindArgs (PySem.W.fnOf d.y d.y (defArgs d.st) (defBody d.st) (defScope d.st) .none kV doc pm an cdv ct) ⟨us, []⟩ = pure (d.ps.zip us)
abbrev FunB (K : PySem.W.Frag) (d : BDef) (fd : FuncData) : Prop := FunD K d.y d.y (defArgs d.st) (defBody d.st) (defScope d.st) [] [] (He.ga K d.x) fd
structure Grd (ds : List BDef) (K : PySem.W.Frag) (mg : Str → Option Value) : Prop where
  fn : ∀ (f : Nat) (d : BDef), defAt ds f = some d → (∃ fd, FunB K d fd) ∧ mg d.x = some (.ref (He.ga K d.x))
  free : ∀ x ∈ bltNames, mg x = none
theorem lookup_mem {x : Str} {f : Nat} : ∀ {l : List (Str × Nat)}, l.lookup x = some f → (x, f) ∈ l
  | [], h => by cases h
  | (y, g) :: l, h => by
    rw [List.lookup_cons] at h
    split at h
    · rename_i he
      have := eq_of_beq he
      subst this
      cases h
      exact List.mem_cons_self ..
    · exact List.mem_cons_of_mem _ (lookup_mem h)
theorem fnsOf_at {ds : List BDef} (ok : idsOk ds = true) {f : Nat} {x : Str} (h : (fnsOf ds).lookup x = some f) : ∃ d, defAt ds f = some d ∧ d.x = x := by
  obtain ⟨d, hd, e⟩ := List.mem_map.mp (lookup_mem h)
  cases e
  have q := of_decide_eq_true (Bool.and_eq_true_iff.mp (List.all_eq_true.mp ok d hd)).1
  obtain ⟨d', h1, h2⟩ := Option.map_eq_some_iff.mp q
  exact ⟨d', h1, h2⟩
theorem defAt_mem {ds : List BDef} {f : Nat} {d : BDef} (h : defAt ds f = some d) : d ∈ ds := List.mem_of_find?_eq_some h
theorem scB_ok {d : BDef} (h : scB d = true) : FnScope d.N d.ps (defScope d.st) := by
  unfold scB at h
  simp only [Bool.and_eq_true, decide_eq_true_eq, Bool.not_eq_true', List.all_eq_true, Bool.or_eq_true, decide_eq_false_iff_not] at h
  obtain ⟨⟨⟨⟨⟨⟨h1, h2⟩, h3⟩, h4⟩, h5⟩, h6⟩, h7⟩ := h
  exact ⟨h1, h2, h3, h4, h5, h6, h7⟩
section
variable {P : Program} {w : World} {K : PySem.W.Frag} {mg : Str → Option Value} {base : Heap} {G : Nat → D} {ds : List BDef} {gls tbs : List (Str × Nat)} {cs : List Str}
theorem Fun.ofD {x : Str} {st : Stmt} {f : Addr} {fd : FuncData} (F : FunD K x x (defArgs st) (defBody st) (defScope st) [] [] f fd) : L2.Fun K x x st f fd := by
  obtain ⟨oc, od, dV, kV, doc, pm, an, cdv, ct, osl, e, lk, hcd, hD, _⟩ := F.ex
  refine ⟨?_, F.kp⟩
  rcases hD with ⟨_, rfl⟩ | ⟨hn, _⟩
  · exact ⟨oc, od, kV, doc, pm, an, cdv, ct, osl, e, lk, hcd⟩
  · exact absurd rfl hn
section
variable {H : Hp} {Z : AS} {F : FS} {B : Bk}
theorem sr_start {N : List Str} {vs : List V} {rs : List R} {np nl : Nat} (s : SR K B (vs.map some) rs H Z F) (hn : nl = N.length) (hp : rs.length = np) : SR K B (L2.start N vs) (rs ++ List.replicate (nl - np) .un) H Z F := by
  have hl : rs.length = vs.length := by simpa using s.len
  refine ⟨?_, fun i => ?_, s.dj, s.nz, s.mu, s.zt, s.gd⟩
  · unfold L2.start
    simp only [List.length_append, List.length_replicate, List.length_map]
    omega
  · have h := s.sl i
    unfold L2.start
    by_cases hi : i < rs.length
    · have e1 : slot (rs ++ List.replicate (nl - np) .un) i = slot rs i := by
        unfold slot
        rw [List.getD_eq_getElem?_getD, List.getD_eq_getElem?_getD, List.getElem?_append_left hi]
      have e2 : (vs.map some ++ List.replicate (N.length - vs.length) none)[i]? = (vs.map some)[i]? := List.getElem?_append_left (by rw [List.length_map]; omega)
      rw [e1, e2]
      exact h
    · have e1 : slot (rs ++ List.replicate (nl - np) .un) i = .un := by
        unfold slot
        rw [List.getD_eq_getElem?_getD, List.getElem?_append_right (by omega), List.getElem?_replicate]
        split <;> rfl
      have e3 : slot rs i = .un := by
        unfold slot
        rw [List.getD_eq_getElem?_getD, List.getElem?_eq_none (by omega)]
        rfl
      rw [e3] at h
      rw [e1]
      exact h
theorem slot_outs {n i : Nat} {ρ : Env} : slot (outs n ρ) i = if i < n then outR (slot ρ i) else .un := by
  unfold outs
  unfold slot
  rw [List.getD_eq_getElem?_getD, List.getElem?_map]
  by_cases h : i < n
  · rw [if_pos h, List.getElem?_range h]
    rfl
  · rw [if_neg h, List.getElem?_eq_none (by rw [List.length_range]; omega)]
    rfl
def isIo : R → Bool
  | .io _ _ => true
  | _ => false
def outF (n : Nat) (ρ : Env) (F : FS) : FS := fun i => if i < n ∧ isIo (slot ρ i) = true then F i else fun _ => False
theorem outF_sub {n i : Nat} {ρ : Env} {a : Addr} (h : outF n ρ F i a) : F i a := by
  unfold outF at h
  split at h
  · exact h
  · exact h.elim
theorem sr_outs {vs : List V} {σ : L2.St} {ρ : Env} {np : Nat} (s : SR K (bOf vs) σ ρ H Z F) (hp : vs.length = np) : SR K (bOf vs) (vs.map some) (outs np ρ) H Z (outF np ρ F) := by
  refine ⟨by unfold outs; simp [hp], fun i => ?_, fun i j a h1 h2 => s.dj i j a (outF_sub h1) (outF_sub h2), fun i a h => s.nz i a (outF_sub h), fun i a h => s.mu i a (outF_sub h), s.zt, s.gd⟩
  rw [slot_outs]
  have h := s.sl i
  by_cases hi : i < np
  · rw [if_pos hi]
    unfold outF
    cases e : slot ρ i with
    | io k d =>
      rw [e] at h
      obtain ⟨h1, v, h2, h3⟩ := h
      rw [if_pos ⟨hi, rfl⟩]
      exact ⟨rfl, v, h1.trans h2, h3⟩
    | un => rw [if_neg fun z => by cases z.2]; exact fun _ z => z
    | val d => rw [if_neg fun z => by cases z.2]; exact fun _ z => z
    | own k d => rw [if_neg fun z => by cases z.2]; exact fun _ z => z
    | scr d => rw [if_neg fun z => by cases z.2]; exact fun _ z => z
    | exc d => rw [if_neg fun z => by cases z.2]; exact fun _ z => z
  · rw [if_neg hi]
    unfold outF
    rw [if_neg fun z => hi z.1]
    exact fun _ z => z
theorem rs_outs {H' : Hp} {Z' : AS} {F' : FS} {S : AS} {np : Nat} {ρ : Env} (r : Rs H Z F H' Z' F' S) : Rs H Z F H' Z' (outF np ρ F') S :=
  ⟨⟨r.ps.keep, r.ps.dom, r.ps.zz, r.ps.zn, fun i a h => r.ps.fn i a (outF_sub h)⟩, fun a z => ⟨(r.tm a z).1, (r.tm a z).2.1, fun i y => (r.tm a z).2.2 i (outF_sub y)⟩, r.tf⟩
end
/-- the module's tables -/
def Tbs (K : PySem.W.Frag) (w : World) (mg : Str → Option Value) (tbs : List (Str × Nat)) : Prop := ∀ x g, tbs.lookup x = some g → TabIn K w mg x g
def XGs (K : PySem.W.Frag) (mg : Str → Option Value) (cs : List Str) : Prop := (∀ d ∈ cs, XG K mg d) ∧ (cs ≠ [] → mg "ValueError" = none)
theorem tab_far {ds : List BDef} (ok : idsOk ds = true) (f : Nat) : tabOf ds (f + rsK) = none := by
  unfold tabOf defAt
  cases e : ds.find? fun d => d.id == f + rsK with
  | none => rfl
  | some d =>
    have h1 := List.mem_of_find?_eq_some e
    have h2 := List.find?_some e
    have h3 := of_decide_eq_true (Bool.and_eq_true_iff.mp (List.all_eq_true.mp ok d h1)).2
    have h4 := eq_of_beq h2
    omega
theorem slot_uns {rs : List R} {i : Nat} : slot (rs.map fun _ => R.un) i = .un := by
  unfold slot
  rw [List.getD_eq_getElem?_getD, List.getElem?_map]
  cases rs[i]? <;> rfl
def Gls (K : PySem.W.Frag) (mg : Str → Option Value) (G : Nat → D) (gls : List (Str × Nat)) : Prop := ∀ x g, gls.lookup x = some g → ∃ v u, mg x = some u ∧ RelV v u ∧ ∀ H Z, Fz K H Z (G g) v
theorem all_ok (gr : Grd ds K mg) (ids : idsOk ds = true) (ok : ds.all (okD (wdOf ds gls tbs cs)) = true) (bo : ∀ d ∈ ds, BindOk d) (gl : Gls K mg G gls) (tb : Tbs K w mg tbs) (xg : XGs K mg cs) : ∀ (n f : Nat) (d : BDef), defAt ds f = some d → ∀ fd, FunB K d fd →
    GFn P w K mg base n (He.ga K d.x) fd d.ps (spFn K (tabOf ds) G n f) ∧ GRn P w K mg base n (He.ga K d.x) fd d.ps (spRs K (tabOf ds) G n f)
  | 0, f, d, hd, fd, F => by
    refine ⟨⟨fun vs H Q ⟨rs, Z, Fs, x, os, _, e, _⟩ => (by cases e), fun A outer s H args us vs Q _ _ _ _ ⟨rs, Z, Fs, x, os, _, e, _⟩ => (by cases e)⟩, ⟨fun vs H Q ⟨rs, Z, Fs, x, _, e, _⟩ => (by cases e), fun A outer s H args us vs Q _ _ _ _ ⟨rs, Z, Fs, x, _, e, _⟩ => (by cases e)⟩⟩
  | n + 1, f, d, hd, fd, F => by
    have okd := List.all_eq_true.mp ok d (defAt_mem hd)
    unfold okD at okd
    simp only [Bool.and_eq_true, decide_eq_true_eq] at okd
    obtain ⟨⟨⟨h1, h2⟩, h3⟩, h4⟩ := okd
    have hT : tabOf ds f = some d.m := by unfold tabOf; rw [hd]; rfl
    have sc := scB_ok h1
    have key : ∀ vs H Q, spFn K (tabOf ds) G (n + 1) f vs H Q → ∃ rs Z Fs r os, SR K (bOf vs) (vs.map some) rs H Z Fs ∧ rs.length = d.m.np ∧ evSs (callN (tabOf ds) G n) G (ownT (tabOf ds)) d.m.body (rs ++ List.replicate (d.m.nl - d.m.np) .un) = some r ∧ endOf d.m.np r = some os ∧
        ∀ v H' Z' F' S, SR K (bOf vs) (vs.map some) os.2 H' Z' F' → Rs H Z Fs H' Z' F' S → Ow K H' Z' os.1 d.m.own v S → Q v H' := by
      rintro vs H Q ⟨rs, Z, Fs, x, os, sr, e, q⟩
      simp only [callN, hT] at e
      split at e
      · rename_i hl
        obtain ⟨r, e2, e3⟩ := Option.bind_eq_some_iff.mp e
        have e6 : ownT (tabOf ds) f = d.m.own := by unfold ownT; rw [hT]
        rw [e6] at q
        exact ⟨rs, Z, Fs, r, (x, os), sr, hl, e2, e3, q⟩
      · cases e
    have key2 : ∀ vs H E, spRs K (tabOf ds) G (n + 1) f vs H E → ∃ rs Z Fs c ρ', SR K (bOf vs) (vs.map some) rs H Z Fs ∧ rs.length = d.m.np ∧ rsSs (callN (tabOf ds) G n) G (ownT (tabOf ds)) d.m.body (rs ++ List.replicate (d.m.nl - d.m.np) .un) = some (c, ρ') ∧
        ∀ H' Z', SR K (bOf vs) (vs.map some) (rs.map fun _ => .un) H' Z' (fun _ _ => False) → Ps H Z Fs H' Z' (fun _ _ => False) → XOk K c → E (.ref (He.ga K c)) none H' := by
      rintro vs H E ⟨rs, Z, Fs, c, sr, e, q⟩
      simp only [callN, tab_far ids f] at e
      rw [if_neg (by omega), Nat.add_sub_cancel, hT] at e
      simp only [Option.bind_some] at e
      split at e
      · rename_i hl
        cases e2 : rsSs (callN (tabOf ds) G n) G (ownT (tabOf ds)) d.m.body (rs ++ List.replicate (d.m.nl - d.m.np) .un) with
        | none => rw [e2] at e; cases e
        | some r =>
          obtain ⟨c1, ρ1⟩ := r
          rw [e2] at e
          cases e
          exact ⟨rs, Z, Fs, c1, ρ1, sr, hl, e2, q⟩
      · cases e
    refine ⟨gfn_of (Fun.ofD F) sc (fun vs H Q h => ?_) (fun cdv A outer s H vs Q room h => ?_), grn_of (Fun.ofD F) sc (fun vs H E h => ?_) (fun cdv A outer s H vs E room h => ?_)⟩
    · obtain ⟨rs, Z, Fs, r, os, sr, hl, _⟩ := key vs H Q h
      have := sr.len
      rw [List.length_map] at this
      omega
    · obtain ⟨rs, Z, Fs, r, os, sr, hl, e, he, q⟩ := key vs H Q h
      have hvl : vs.length = d.m.np := by
        have := sr.len
        rw [List.length_map] at this
        omega
      refine ⟨spS K (bOf vs) d.m.own (evSs (callN (tabOf ds) G n) G (ownT (tabOf ds)) d.m.body), ?_, ?_⟩
      · refine chkSs_ok (W := wdOf ds gls tbs cs) (N := d.N) (sc := defScope d.st) (T := tabOf ds) (n := n) (G := G) (kr := d.m.own) (B := bOf vs) d.m.body ?_ ⟨rfl, rfl, rfl⟩ h4
        refine { scope := rfl, hn := rfl, nd := sc.nd, kind := sc.kind, calm := rfl, un := ?_, pass := PassesOwn.never, top := fun _ _ => rfl, own := rfl, blt := gr.free, room := room, fn := fun x f' hx => ?_, rn := fun x f' hx => ?_, xc := xg.1, xv := xg.2, gl := gl, tb := tb }
        · have := room.room.un
          show (A.deeper _).units + 65 < cLine
          omega
        · obtain ⟨d', hd', hx'⟩ := fnsOf_at ids hx
          obtain ⟨⟨fd', F'⟩, hmg⟩ := gr.fn f' d' hd'
          subst hx'
          exact ⟨_, fd', d'.ps, (all_ok gr ids ok bo gl tb xg n f' d' hd' fd' F').1, hmg, F'.kp, F'.bindsN (bo d' (defAt_mem hd'))⟩
        · obtain ⟨d', hd', hx'⟩ := fnsOf_at ids hx
          obtain ⟨⟨fd', F'⟩, hmg⟩ := gr.fn f' d' hd'
          subst hx'
          exact ⟨_, fd', d'.ps, (all_ok gr ids ok bo gl tb xg n f' d' hd' fd' F').2, hmg, F'.kp, F'.bindsN (bo d' (defAt_mem hd'))⟩
      · refine ⟨_, Z, Fs, r, sr_start sr h3 hl, e, ?_⟩
        cases r with
        | rt x ρ' =>
          cases he
          intro v σ' H' Z' F' S s' rs' o
          exact q v H' Z' _ S (sr_outs s' hvl) (rs_outs rs') o
        | nx ρ' =>
          cases he
          intro σ' H' Z' F' s' p
          exact q .non H' Z' _ (fun _ => False) (sr_outs s' hvl) (rs_outs ⟨p, Tm.none, fun _ z => z.elim⟩) ⟨rfl, fun _ z => z⟩
        | bk ρ' => cases he
        | ct ρ' => cases he
    · obtain ⟨rs, Z, Fs, c, ρ', sr, hl, _⟩ := key2 vs H E h
      have := sr.len
      rw [List.length_map] at this
      omega
    · obtain ⟨rs, Z, Fs, c, ρ', sr, hl, e, q⟩ := key2 vs H E h
      have hvl : vs.length = d.m.np := by
        have := sr.len
        rw [List.length_map] at this
        omega
      refine ⟨fun _ => rpS K (bOf vs) (fun cls dd _ H => E cls dd H) (rsSs (callN (tabOf ds) G n) G (ownT (tabOf ds)) d.m.body), ?_, ?_⟩
      · refine rsSs_ok (W := wdOf ds gls tbs cs) (N := d.N) (sc := defScope d.st) (T := tabOf ds) (n := n) (G := G) (kr := d.m.own) (B := bOf vs) d.m.body ?_ ⟨rfl, rfl, rfl⟩ (takes_of rfl rfl rfl rfl) h4
        refine { scope := rfl, hn := rfl, nd := sc.nd, kind := sc.kind, calm := rfl, un := ?_, pass := passes_of rfl, top := fun _ _ => rfl, own := rfl, blt := gr.free, room := room, fn := fun x f' hx => ?_, rn := fun x f' hx => ?_, xc := xg.1, xv := xg.2, gl := gl, tb := tb }
        · have := room.room.un
          show (A.deeper _).units + 65 < cLine
          omega
        · obtain ⟨d', hd', hx'⟩ := fnsOf_at ids hx
          obtain ⟨⟨fd', F'⟩, hmg⟩ := gr.fn f' d' hd'
          subst hx'
          exact ⟨_, fd', d'.ps, (all_ok gr ids ok bo gl tb xg n f' d' hd' fd' F').1, hmg, F'.kp, F'.bindsN (bo d' (defAt_mem hd'))⟩
        · obtain ⟨d', hd', hx'⟩ := fnsOf_at ids hx
          obtain ⟨⟨fd', F'⟩, hmg⟩ := gr.fn f' d' hd'
          subst hx'
          exact ⟨_, fd', d'.ps, (all_ok gr ids ok bo gl tb xg n f' d' hd' fd' F').2, hmg, F'.kp, F'.bindsN (bo d' (defAt_mem hd'))⟩
      · refine ⟨_, Z, Fs, c, ρ', sr_start sr h3 hl, e, fun σ' H' Z' F' s' p ok2 => q H' Z' ?_ ?_ ok2⟩
        · refine ⟨by simp only [List.length_map]; omega, fun i => ?_, fun i j a h1 => h1.elim, fun i a h1 => h1.elim, fun i a h1 => h1.elim, s'.zt, s'.gd⟩
          rw [slot_uns]
          exact fun _ z => z
        · exact ⟨p.keep, p.dom, p.zz, p.zn, fun i a z => z.elim⟩
end
end
end BW

/-! BwEnd2: the law's own call. -/
namespace BW
noncomputable section
open PySem PySem.Spec PyProof.Rows L2
section
variable {P : Program} {w : World} {K : PySem.W.Frag} {mg mb : Str → Option Value} {k : Nat} {fl a : Addr} {fd : FuncData} {x : Str} {sp : Sp0} {t : Shared} {us : List Value} {ns : List Int}
/-- what the caller is told -/
abbrev Told (t : Shared) (r : Result) (u : Shared) : Prop := r = .ok (.ret (.bool true)) ∧ OldK t.heap u.heap ∧ u.os = t.os ∧ AllBare u.gens
theorem call_at (Hs : Hp) (KX : K.In t.heap) (nsG : t.heap.Ns mainGlobals mg) (nsB : t.heap.Ns builtinsNs mb) (bb : ∀ y : Str, y ≠ "__name__" → mb y = bootBuiltins y) (nl : t.heap.NoLimit) (g0 : t.gens = #[])
    (oa : t.heap.get? a = some { cls := .type "list", data := .seq us.toArray }) (room : GRoom k callerA) (F : ∀ base : Heap, GFn P w K mg base k fl fd [x] sp) (bnd : ∀ (s : Shared) (u : Value), BindsTo s fd ⟨[u], []⟩ [(x, u)])
    (only : ∀ b, Hs b = none ∨ ∃ o xs, Hs b = some (.frz o (.lst xs))) (fit : HOk P w Hs t.heap) (just : ∀ b, Hs b ≠ none → b = a) (apart : Hs a ≠ none → K.lookup a = none) (says : sp [.ref a] Hs fun v _ => v = .bl true) :
    codeAny (model P w) callerA (.call (.ref fl) ⟨[.ref a], []⟩) (Told t) t := by
  have free : ∀ {b : Addr} {o : Obj} {ent : Array DictEntry} {j : Nat}, t.heap.get? b = some o → o.data = .dict ent j → Hs b = none := by
    intro b o ent j e ed
    apply Classical.byContradiction
    intro hne
    have := just b hne
    subst this
    have eo := Option.some.inj (oa.symm.trans e)
    subst eo
    cases ed
  have moved : ∀ {b : Addr} {m : Str → Option Value}, t.heap.Ns b m → (hidT t.heap Hs).Ns b m := by
    rintro b m ⟨o, ent, j, e, ed, rest⟩
    exact ⟨o, ent, j, hidT_get e (free e ed), ed, rest⟩
  have kin : K.In (hidT t.heap Hs) := by
    intro b o e
    refine hidT_get (KX b o e) (Classical.byContradiction fun hne => ?_)
    have hb := just b hne
    subst hb
    rw [apart hne] at e
    cases e
  have start0 : Env0 P w K mg (hidT t.heap Hs) callerA [] t Hs := by
    refine { frames := rfl, mod := ⟨kin, moved nsG, ⟨mb, moved nsB, bb⟩, ?_⟩, bs := fun b o e => of_hidT e, bsz := Nat.le_of_eq (hidT_size _ _), funs := trivial, frf := fun b hb => ?_, hok := fit, bare := .of_eq g0 }
    · obtain ⟨ml, n1, n2⟩ := nl
      exact ⟨ml, moved n1, n2⟩
    · exact absurd (show b ∈ ([] : List Addr) from hb) (by simp)
  refine codeAny_mono ((F _).run callerA [] t Hs ⟨[.ref a], []⟩ [.ref a] [.ref a] _ room start0 (bnd t (.ref a)) (.cons rfl .nil) says) ?_
  intro r u hr
  match r, hr with
  | .ok (.ret y), ⟨v, Hn, osE, bareE, un, fitE, rel, hv⟩ =>
    have hv' : v = .bl true := hv
    subst hv'
    have hy : y = Value.bool true := rel
    subst hy
    refine ⟨rfl, OldK.of_keep fun b o e => ?_, osE, bareE⟩
    rcases only b with hb | ⟨ob, xs, hb⟩
    · refine un.keep b o e hb (fun z => ?_) (by simp)
      exact absurd (show b ∈ ([] : List Addr) from z) (by simp)
    · have q1 := (fit b _ hb).1
      have q2 := (fitE b _ (un.frzs b ob _ hb)).1
      rw [e] at q1
      cases q1
      exact q2
theorem end_call (KX : K.In t.heap) (nsG : t.heap.Ns mainGlobals mg) (nsB : t.heap.Ns builtinsNs mb) (bb : ∀ y : Str, y ≠ "__name__" → mb y = bootBuiltins y) (nl : t.heap.NoLimit) (g0 : t.gens = #[])
    (oa : t.heap.get? a = some { cls := .type "list", data := .seq us.toArray }) (isI : IntsAre us ns) (short : ns.length ≤ sizeLine) (room : GRoom k callerA) (F : ∀ base : Heap, GFn P w K mg base k fl fd [x] sp) (bnd : ∀ (s : Shared) (u : Value), BindsTo s fd ⟨[u], []⟩ [(x, u)])
    (says : ∀ Hs : Hp, (∀ b, Hs b = none ∨ ∃ o xs, Hs b = some (.frz o (.lst xs))) → (∀ b, Hs b ≠ none → ∃ o, Hs b = some (.frz o (.lst (ns.map V.int)))) → FrL K Hs a ns → sp [.ref a] Hs fun v _ => v = .bl true) :
    codeAny (model P w) callerA (.call (.ref fl) ⟨[.ref a], []⟩) (Told t) t := by
  have vals := vals_ints isI
  have sz : us.length = ns.length := isI.length
  by_cases own : ∃ o, K.lookup a = some o
  · obtain ⟨o, ho⟩ := own
    have eo := KX a o ho
    rw [oa] at eo
    cases eo
    refine call_at (fun _ => none) KX nsG nsB bb nl g0 oa room F bnd (fun _ => .inl rfl) (fun b u z => by cases z) (fun b z => absurd rfl z) (fun z => absurd rfl z) (says _ (fun _ => .inl rfl) (fun b z => absurd rfl z) (.inr ⟨_, us.toArray, _, ho, rfl, rfl, rfl, ?_, by simpa using vals⟩))
    rw [List.size_toArray, sz]
    exact short
  · have out : K.lookup a = none := by
      cases e : K.lookup a with
      | none => rfl
      | some o => exact absurd ⟨o, e⟩ own
    have here : ∀ b, (fun b => if b = a then some (HO.frz { cls := .type "list", data := .seq us.toArray } (.lst (ns.map V.int))) else none : Hp) b ≠ none → b = a := by
      intro b hb
      apply Classical.byContradiction
      intro hn
      exact hb (if_neg hn)
    refine call_at (fun b => if b = a then some (.frz { cls := .type "list", data := .seq us.toArray } (.lst (ns.map V.int))) else none) KX nsG nsB bb nl g0 oa room F bnd ?_ ?_ here (fun _ => out) (says _ ?_ ?_ (.inl ⟨_, if_pos rfl⟩))
    · intro b
      by_cases hb : b = a
      · exact .inr ⟨_, _, if_pos hb⟩
      · exact .inl (if_neg hb)
    · intro b u z
      have hb := here b (by rw [z]; simp)
      subst hb
      have z' := Option.some.inj ((if_pos rfl).symm.trans z)
      subst z'
      exact ⟨oa, by rw [List.length_map]; exact short, us, _, vals, oa⟩
    · intro b
      by_cases hb : b = a
      · exact .inr ⟨_, _, if_pos hb⟩
      · exact .inl (if_neg hb)
    · intro b hb
      have := here b hb
      subst this
      exact ⟨_, if_pos rfl⟩
end
/-- the law's script in the slot -/
theorem sr_law {K : PySem.W.Frag} {Hs : Hp} {a : Addr} {ns : List Int} (only : ∀ b, Hs b ≠ none → ∃ o, Hs b = some (.frz o (.lst (ns.map V.int)))) (short : ns.length ≤ sizeLine) (f : FrL K Hs a ns) : SR K (bOf [.ref a]) ([V.ref a].map some) [.scr ns] Hs (fun _ => False) (fun _ _ => False) := by
  refine ⟨rfl, fun i => ?_, fun i j b h => h.elim, fun i b h => h.elim, fun i b h => h.elim, fun b h => h.elim, fun b xs h => ?_⟩
  · cases i with
    | zero => exact ⟨⟨a, rfl, f⟩, fun _ z => z⟩
    | succ i => exact fun _ z => z
  · have go : ∀ {o : HO}, Hs b = some o → ∃ ob, o = .frz ob (.lst (ns.map V.int)) := fun {o} e => by
      obtain ⟨ob, e2⟩ := only b (by rw [e]; simp)
      rw [e] at e2
      exact ⟨ob, Option.some.inj e2⟩
    rcases h with (h | ⟨ob, h⟩) | (h | ⟨ob, h⟩)
    · obtain ⟨ob, e⟩ := go h; cases e
    · obtain ⟨ob2, e⟩ := go h; cases e; rw [List.length_map]; exact short
    · obtain ⟨ob, e⟩ := go h; cases e
    · obtain ⟨ob2, e⟩ := go h; cases e
/-- THE END: a text's defs told by the head, its law by the small language -/
theorem walk_bw {l : PySem.W.OpenLaw} {n k fl : Nat} {q : Program} {loose : List Str} {XP : (Str → Option Value) → Heap → Prop} {YP : World → Heap → Prop} {d : DefRec} {ds : List BDef} {dl : BDef} {x : Str} {G : Nat → D} {gls tbs : List (Str × Nat)} {cs : List Str}
    (hn : l.most = some n) (hn2 : n ≤ sizeLine) (hdf : d.params.defaults = []) (hr : GRoom k callerA) (hl : defAt ds fl = some dl) (hx : dl.ps = [x])
    (hY : ∀ (w : World) (h : Heap) (mg : Str → Option Value), YP w h → h.Ns mainGlobals mg → ∃ K : PySem.W.Frag, K.In h ∧ Grd ds K mg ∧ Gls K mg G gls ∧ Tbs K w mg tbs ∧ XGs K mg cs) (hname : d.name = dl.x)
    (ids : idsOk ds = true) (ok : ds.all (okD (wdOf ds gls tbs cs)) = true) (bo : ∀ d ∈ ds, BindOk d) (val : ∀ ns : List Int, ns.length ≤ n → ∃ os, callN (tabOf ds) G k fl [.scr ns] = some (.bool true, os)) :
    PySem.W.WalkO q loose XP YP l.row.toRowW d [] (fun f vs => PySem.call f vs) := by
  refine Att.attach_call hn hdf fun w s₀ t mg mb fa o pm cd doc a us ns G' Y ho hd hcd hmg hobj hints hlen hg => ?_
  obtain ⟨K, KX, gr, gl, tb, xg⟩ := hY w _ mg Y G'.T.g
  obtain ⟨⟨fd, F⟩, hm⟩ := gr.fn fl dl hl
  rw [hname, hm] at hmg
  cases hmg
  have bd := F.bindsA (bo dl (defAt_mem hl))
  rw [hx] at bd
  refine end_call (x := x) KX G'.T.g G'.T.b G'.T.builtins G'.T.nolimit hg hobj hints (Nat.le_trans hlen hn2) hr (sp := spFn K (tabOf ds) G k fl) (fun base => by
    have := (all_ok (P := l.prog) (w := w) (base := base) gr ids ok bo gl tb xg k fl dl hl fd F).1
    rw [hx] at this
    exact this) (fun s u => bd s [u] rfl) fun Hs only fro hf => ?_
  obtain ⟨os, e⟩ := val ns hlen
  refine ⟨[.scr ns], _, _, .bool true, os, sr_law fro (Nat.le_trans hlen hn2) hf, e, fun v H' Z' F' S s r o => ?_⟩
  exact ow_bl o
end
end BW

/-! BwEnd3: the head's facts, read off. -/
namespace BW
noncomputable section
open PySem PySem.Spec PyProof.Rows L2
def toD (d : BDef) : He.DefD := ⟨(d.x, none), d.y, d.y, defArgs d.st, defBody d.st, defScope d.st, [], []⟩
def fnL (ds : List BDef) : List He.DefD := ds.map toD
def faL (ds : List BDef) : List He.Fa := ds.map (fun d => .glo d.x) ++ bltNames.map .free
theorem grd_of {K : PySem.W.Frag} {h : Heap} {mg : Str → Option Value} {ds : List BDef} (X : K.In h) (G : h.Ns mainGlobals mg) (c : He.SaysD (faL ds) (fnL ds) K) : Grd ds K mg where
  fn := fun f d hd => by
    have hm := defAt_mem hd
    refine ⟨c.defs (d := toD d) (List.mem_map.mpr ⟨d, hm, rfl⟩), He.glo_ok X G (c.facts (f := .glo d.x) (List.mem_append_left _ (List.mem_map.mpr ⟨d, hm, rfl⟩)))⟩
  free := fun x hx => He.free_ok X G (c.facts (f := .free x) (List.mem_append_right _ (List.mem_map.mpr ⟨x, hx, rfl⟩)))
/-! ### constants and tables, read off -/
def fzB (K : PySem.W.Frag) (d : D) (u : Value) : Bool := match d with
  | .tuple l => (match u with
    | .ref a => (match K.lookup a with
      | some ⟨.type c, _, .seq its _, _⟩ => decide (c = "tuple") && decide (its.size ≤ sizeLine) && l.all flatD && He.relAll (l.map flV) its.toList
      | _ => false)
    | _ => false)
  | d => flatD d && He.relB (flV d) u
theorem fz_flat {K : PySem.W.Frag} {H : Hp} {Z : AS} : ∀ {d : D}, flatD d = true → Fz K H Z d (flV d)
  | .none, _ => rfl
  | .bool _, _ => rfl
  | .int _, _ => rfl
  | .str _, _ => rfl
  | .list _, h => by cases h
  | .tuple _, h => by cases h
  | .dict _, h => by cases h
theorem fzL_flat {K : PySem.W.Frag} {H : Hp} {Z : AS} : ∀ {l : List D}, l.all flatD = true → FzL K H Z l (l.map flV)
  | [], _ => by unfold FzL; rfl
  | d :: l, h => by
    rw [List.all_cons, Bool.and_eq_true] at h
    unfold FzL
    exact ⟨flV d, l.map flV, rfl, fz_flat h.1, fzL_flat h.2⟩
theorem fzB_ok {K : PySem.W.Frag} {d : D} {u : Value} (h : fzB K d u = true) : ∃ v, RelV v u ∧ ∀ H Z, Fz K H Z d v := by
  cases d with
  | tuple l =>
    cases u with
    | ref a =>
      unfold fzB at h
      dsimp only at h
      split at h
      · rename_i c dd its n sl e
        simp only [Bool.and_eq_true, decide_eq_true_eq] at h
        obtain ⟨⟨⟨rfl, h2⟩, h3⟩, h4⟩ := h
        refine ⟨.ref a, rfl, fun H Z => ?_⟩
        unfold Fz
        exact ⟨a, l.map flV, rfl, .inr ⟨_, its, n, e, rfl, rfl, h2, He.relAll_ok h4⟩, fzL_flat h3⟩
      · cases h
    | _ => cases h
  | _ =>
    unfold fzB at h
    rw [Bool.and_eq_true] at h
    exact ⟨_, He.relB_ok h.2, fun H Z => fz_flat h.1⟩
def glB1 (G : Nat → D) (K : PySem.W.Frag) (p : Str × Nat) : Bool := match PySem.W.nsIn K mainGlobals p.1 with
  | some (some u) => fzB K (G p.2) u
  | _ => false
def tbB1 (K : PySem.W.Frag) (p : Str × Nat) : Bool := decide (PySem.W.nsIn K mainGlobals p.1 = some (some (.ref (He.ga K p.1)))) && (tabs p.2).all fun q => match PySem.W.nsIn K (He.ga K p.1) q.1 with
  | some (some u) => fzB K q.2 u
  | _ => false
/-- a class, read off -/
def excB (K : PySem.W.Frag) (D : Addr) : Bool :=
  decide (PySem.W.findIn K (.ref D) "__getattribute__" = some (some (.builtin "BaseException.__getattribute__"))) && decide (PySem.W.findIn K (.ref D) "__getattr__" = some none) && decide (PySem.W.subIn K (.ref D) (.type "BaseException") = some true) &&
    decide (PySem.W.hasDictIn K D = true) && decide (PySem.W.findIn K (.ref D) "__class__" = some (some (.builtin "object.__class__"))) && decide (PySem.W.specialIn K (.builtin "object.__class__") "__get__" = some (some (.builtin "getset_descriptor.__get__"))) &&
    decide (PySem.W.takesIn K (.builtin "object.__class__") = some true) && decide (PySem.W.mroIn K D (.type "object") = some true)
theorem excB_ok {K : PySem.W.Frag} {D : Addr} (h : excB K D = true) : ExcC K D := by
  unfold excB at h
  simp only [Bool.and_eq_true, decide_eq_true_eq] at h
  obtain ⟨⟨⟨⟨⟨⟨⟨h1, h2⟩, h3⟩, h4⟩, h5⟩, h6⟩, h7⟩, h8⟩ := h
  exact ⟨h1, h2, h3, h4, h5, h6, h7, h8⟩
def xgB (K : PySem.W.Frag) (d : Str) : Bool :=
  decide (PySem.W.nsIn K mainGlobals d = some (some (.ref (He.ga K d)))) && excB K (He.ga K d) && decide (PySem.W.kitOne K (.ref (He.ga K d)) (.type "ValueError") = some true) &&
    (xcls.all fun e => !decide (PySem.W.nsIn K mainGlobals e = some (some (.ref (He.ga K e)))) || (decide (PySem.W.kitOne K (.ref (He.ga K d)) (.ref (He.ga K e)) = some (subC d e)) && decide (PySem.W.exmOne K (.ref (He.ga K d)) (.ref (He.ga K e)) = some (subC d e)))) &&
    decide (d ∈ xcls) && (!newB d || PySem.W.excIn K (He.ga K d) He.veBase "ValueError.__new__") && PySem.W.keepIn K (.ref (He.ga K d)) && decide (PySem.W.typeIn K (.ref (He.ga K d)) = some (.type "type"))
theorem xgB_ok {K : PySem.W.Frag} {h : Heap} {mg : Str → Option Value} {d : Str} (X : K.In h) (N : h.Ns mainGlobals mg) (q : xgB K d = true) : XG K mg d := by
  unfold xgB at q
  simp only [Bool.and_eq_true, decide_eq_true_eq, Bool.or_eq_true, Bool.not_eq_true', List.all_eq_true, decide_eq_false_iff_not] at q
  obtain ⟨⟨⟨⟨⟨⟨⟨h1, h2⟩, h3⟩, h4⟩, h5⟩, h6⟩, h7⟩, h8⟩ := q
  have x := excB_ok h2
  exact ⟨⟨h1, x, h3, fun e he hn => (h4 e he).elim (fun z => absurd hn z) id⟩, h5, PySem.W.mg_of X N h1, fun z => h6.elim (fun y => by rw [z] at y; cases y) id, h7, x.hs, h8⟩
def xgL (cs : List Str) (K : PySem.W.Frag) : Bool := cs.all (xgB K) && (cs.isEmpty || decide (PySem.W.nsIn K mainGlobals "ValueError" = some none))
theorem xgs_of {K : PySem.W.Frag} {h : Heap} {mg : Str → Option Value} {cs : List Str} (X : K.In h) (N : h.Ns mainGlobals mg) (q : xgL cs K = true) : XGs K mg cs := by
  unfold xgL at q
  rw [Bool.and_eq_true, Bool.or_eq_true, decide_eq_true_eq] at q
  refine ⟨fun d hd => xgB_ok X N (List.all_eq_true.mp q.1 d hd), fun hne => ?_⟩
  rcases q.2 with z | z
  · cases cs with
    | nil => exact absurd rfl hne
    | cons => cases z
  · exact PySem.W.mg_none_of X N z
def exL (G : Nat → D) (gls tbs : List (Str × Nat)) (cs : List Str) (K : PySem.W.Frag) : Bool := (gls.all (glB1 G K) && tbs.all (tbB1 K)) && xgL cs K
def tsL (tbs : List (Str × Nat)) : List He.Tab := tbs.map fun p => (fun K => He.ga K p.1, (tabs p.2).map (·.1))
theorem look_all {α : Type} {x : Str} {f : α} : ∀ {l : List (Str × α)}, l.lookup x = some f → (x, f) ∈ l
  | [], h => by cases h
  | (y, g) :: l, h => by
    rw [List.lookup_cons] at h
    split at h
    · rename_i e
      cases h
      rw [eq_of_beq e]
      exact List.mem_cons_self ..
    · exact List.mem_cons_of_mem _ (look_all h)
theorem look_none {α : Type} {x : Str} : ∀ {l : List (Str × α)}, l.lookup x = none → x ∉ l.map (·.1)
  | [], _ => by simp
  | (y, g) :: l, h => by
    rw [List.lookup_cons] at h
    split at h
    · cases h
    · rename_i e
      have e2 : x ≠ y := by simpa using e
      simp only [List.map_cons, List.mem_cons, not_or]
      exact ⟨e2, look_none h⟩
theorem keys_nil {P : Params} : ∀ {l : List DictEntry} {ks : List Str} {z : Str}, l.map He.keyOf = He.keysIn P ks → z ∉ ks → l.find? (·.key.isStr z) = none ∧ l.any (·.refKey) = false
  | [], _, _, _, _ => ⟨rfl, rfl⟩
  | e :: l, [], _, h, _ => by cases h
  | e :: l, k :: ks, z, h, hz => by
    have h1 : He.keyOf e :: l.map He.keyOf = some (k, PyData.keyHash P k) :: He.keysIn P ks := h
    injection h1 with h2 h3
    rw [List.mem_cons, not_or] at hz
    obtain ⟨q1, q2⟩ := keys_nil h3 hz.2
    unfold He.keyOf at h2
    split at h2
    · rename_i x t q
      obtain ⟨h5, h6⟩ := Prod.mk.inj (Option.some.inj h2)
      subst h5
      have n1 : e.key.isStr z = false := by
        rw [q]
        unfold Value.isStr
        simpa using fun e => hz.1 e.symm
      have n2 : e.refKey = false := by
        unfold DictEntry.refKey
        rw [q]
      exact ⟨by rw [List.find?_cons, n1]; exact q1, by rw [List.any_cons, n2, q2]; rfl⟩
    · cases h2
theorem tab_key {K : PySem.W.Frag} {w : World} {fa : List He.Fa} {fn : List He.DefD} {ts : List He.Tab} (c : He.SaysT fa fn ts w K) (i : Nat) {t : He.Tab} (h : ts[i]? = some t) : ∃ es n, KDict K w (t.1 K) es n ∧ ∀ z, z ∉ t.2 → PySem.W.nsIn K (t.1 K) z = some none := by
  obtain ⟨es, n, kd⟩ := c.tab i h
  refine ⟨es, n, kd, fun z hz => ?_⟩
  have e : ts.map (fun t => He.dicW K (t.1 K)) = ts.map fun t => some (He.keysIn w.params t.2) := congrArg (fun z : He.AlT => z.2) c
  have e2 : (ts.map fun t => He.dicW K (t.1 K))[i]? = (ts.map fun t => some (He.keysIn w.params t.2))[i]? := by rw [e]
  rw [List.getElem?_map, List.getElem?_map, h] at e2
  have e3 : He.dicW K (t.1 K) = some (He.keysIn w.params t.2) := Option.some.inj e2
  unfold He.dicW at e3
  rw [kd.at_] at e3
  dsimp only at e3
  split at e3
  · obtain ⟨q1, q2⟩ := keys_nil (Option.some.inj e3) hz
    unfold PySem.W.nsIn
    rw [kd.at_]
    dsimp only
    rw [q1, q2]
    rfl
  · cases e3
theorem gls_of {K : PySem.W.Frag} {h : Heap} {mg : Str → Option Value} {G : Nat → D} {gls : List (Str × Nat)} (X : K.In h) (N : h.Ns mainGlobals mg) (c : gls.all (glB1 G K) = true) : Gls K mg G gls := fun x g e => by
  have q := List.all_eq_true.mp c _ (look_all e)
  unfold glB1 at q
  dsimp only at q
  split at q
  · rename_i u hu
    obtain ⟨v, r, f⟩ := fzB_ok q
    exact ⟨v, u, PySem.W.mg_of X N hu, r, f⟩
  · cases q
theorem tbs_of {K : PySem.W.Frag} {h : Heap} {mg : Str → Option Value} {w : World} {fa : List He.Fa} {fn : List He.DefD} {tbs : List (Str × Nat)} (X : K.In h) (N : h.Ns mainGlobals mg) (c : He.SaysT fa fn (tsL tbs) w K) (q : tbs.all (tbB1 K) = true) : Tbs K w mg tbs := fun x g e => by
  have hm := look_all e
  have q1 := List.all_eq_true.mp q _ hm
  unfold tbB1 at q1
  rw [Bool.and_eq_true, decide_eq_true_eq] at q1
  obtain ⟨i, hi, ei⟩ := List.mem_iff_getElem.mp hm
  have ht : (tsL tbs)[i]? = some (fun K => He.ga K x, (tabs g).map (·.1)) := by
    unfold tsL
    rw [List.getElem?_map, List.getElem?_eq_getElem hi, ei]
    rfl
  have kd := tab_key c i ht
  obtain ⟨es, n, kd, kn⟩ := kd
  refine ⟨_, es, n, PySem.W.mg_of X N q1.1, kd, fun z => ?_⟩
  cases l : (tabs g).lookup z with
  | some dd =>
    have q2 := List.all_eq_true.mp q1.2 _ (look_all l)
    dsimp only at q2 ⊢
    split at q2
    · rename_i u hu
      obtain ⟨v, r, f⟩ := fzB_ok q2
      exact ⟨u, v, hu, r, f⟩
    · cases q2
  | none => exact kn z (look_none l)
abbrev hookL (G : Nat → D) (gls tbs : List (Str × Nat)) (cs : List Str) (ds : List BDef) : PySem.W.Hook := He.hookX 4 (faL ds) (fnL ds) (tsL tbs) [] (exL G gls tbs cs)
def obL (G : Nat → D) (gls tbs : List (Str × Nat)) (cs : List Str) (ds : List BDef) (s : PySem.W.SharedT) : He.AlX := He.obsX 4 (faL ds) (fnL ds) (tsL tbs) [] (exL G gls tbs cs) (HandSHeadRun.getT s)
theorem obL_eq {G : Nat → D} {gls tbs : List (Str × Nat)} {cs : List Str} {ds : List BDef} (s : PySem.W.SharedT) : obL G gls tbs cs ds s = (hookL G gls tbs cs ds).obs s.abs := He.obsX_eq (HandSHeadRun.getT_eq s)
theorem facts_of {K : PySem.W.Frag} {h : Heap} {mg : Str → Option Value} {w : World} {G : Nat → D} {gls tbs : List (Str × Nat)} {cs : List Str} {ds : List BDef} (X : K.In h) (N : h.Ns mainGlobals mg) (c : He.SaysX (faL ds) (fnL ds) (tsL tbs) [] (exL G gls tbs cs) w h K) : Grd ds K mg ∧ Gls K mg G gls ∧ Tbs K w mg tbs ∧ XGs K mg cs := by
  have q := c.more
  unfold exL at q
  rw [Bool.and_eq_true, Bool.and_eq_true] at q
  exact ⟨grd_of X N c.t.d, gls_of X N q.1.1, tbs_of X N c.t q.1.2, xgs_of X N q.2⟩
end
end BW

/-! BwW: evaluation by need: what comes behind is not looked at before it is reached. -/
namespace BW
noncomputable section
open PySem PySem.Spec PyProof.Rows L2
/-- a mark that keeps a thing from being rewritten -/
inductive Lz {α : Sort u} (q : α) : Type | z
def bnd {α β : Type} (x : Option α) (f : α → Option β) (t : Lz f := .z) : Option β := x.bind f
def cnd {α : Type} (b : Bool) (x y : α) (t : Lz x := .z) (u : Lz y := .z) : α := if b then x else y
/-- x ends, as Q says -/
def W {α : Type} (x : Option α) (Q : α → Prop) (t : Lz Q := .z) : Prop := ∃ a, x = some a ∧ Q a
theorem W.mono {α : Type} {x : Option α} {P Q : α → Prop} (h : W x P) (k : ∀ a, P a → Q a) : W x Q := by
  obtain ⟨a, e, p⟩ := h
  exact ⟨a, e, k a p⟩
theorem W.via {α : Type} {x : Option α} {Q : α → Prop} (P : α → Prop) (h : ∀ K : α → Prop, (∀ a, P a → K a) → W x K) (k : ∀ a, P a → Q a) : W x Q := (h P fun _ p => p).mono k
theorem W.of {α : Type} {x : Option α} {a : α} {Q : α → Prop} (h : x = some a) (q : Q a) : W x Q := ⟨a, h, q⟩
theorem W.eq {α : Type} {x : Option α} {a : α} (h : W x (fun b => b = a)) : x = some a := by
  obtain ⟨b, e, rfl⟩ := h
  exact e
theorem W.iff_eq {α : Type} {x : Option α} {a : α} : W x (fun b => b = a) ↔ x = some a := ⟨W.eq, fun h => ⟨a, h, rfl⟩⟩
theorem W.cnd {α : Type} {b : Bool} {x y : Option α} {Q : α → Prop} {t u v} (h1 : b = true → W x Q) (h2 : b = false → W y Q) : W (cnd b x y t u) Q v := by
  cases b
  · exact h2 rfl
  · exact h1 rfl
namespace Ev
section
variable {α β γ : Type}
@[scoped simp] theorem bnd_some {a : α} {f : α → Option β} {t} : bnd (some a) f t = f a := id rfl
@[scoped simp] theorem bnd_none {f : α → Option β} {t} : bnd none f t = none := id rfl
@[scoped simp] theorem bnd_bnd {x : Option α} {f : α → Option β} {g : β → Option γ} {t u} : bnd (bnd x f t) g u = bnd x fun a => bnd (f a) g := by cases x <;> rfl
@[scoped simp] theorem cnd_true {x y : α} {t u} : cnd true x y t u = x := id rfl
@[scoped simp] theorem cnd_false {x y : α} {t u} : cnd false x y t u = y := id rfl
@[scoped simp] theorem W_some {a : α} {Q : α → Prop} {t} : W (some a) Q t = Q a := propext ⟨fun ⟨b, e, q⟩ => (by cases e; exact q), fun q => ⟨a, rfl, q⟩⟩
@[scoped simp] theorem W_none {Q : α → Prop} {t} : W none Q t = False := propext ⟨fun ⟨b, e, q⟩ => (by cases e), fun q => False.elim q⟩
@[scoped simp] theorem W_bnd {x : Option α} {f : α → Option β} {Q : β → Prop} {t u} : W (bnd x f t) Q u = W x fun a => W (f a) Q := by
  cases x
  · exact propext ⟨fun ⟨b, e, q⟩ => (by cases e), fun ⟨b, e, q⟩ => (by cases e)⟩
  · exact propext ⟨fun ⟨b, e, q⟩ => ⟨_, rfl, b, e, q⟩, fun ⟨b, e, c, e2, q⟩ => (by cases e; exact ⟨c, e2, q⟩)⟩
end
/-! slots -/
@[scoped simp] theorem slot_z {a : R} {l : Env} : slot (a :: l) 0 = a := id rfl
@[scoped simp] theorem slot_s {a : R} {l : Env} {n : Nat} : slot (a :: l) (n + 1) = slot l n := id rfl
@[scoped simp] theorem kills_nil {ρ : Env} : kills ρ [] = ρ := id rfl
@[scoped simp] theorem kills_cons {ρ : Env} {i : Nat} {is : List Nat} : kills ρ (i :: is) = kills (ρ.set i .un) is := id rfl
@[scoped simp] theorem mkR_z {d : D} : mkR 0 d = .val d := id rfl
@[scoped simp] theorem mkR_s {k : Nat} {d : D} : mkR (k + 1) d = .own (k + 1) d := id rfl
end Ev
def rdR (ρ : Env) (i : Nat) : R → Option (D × Env)
  | .val d => some (d, ρ)
  | .own _ d => some (d, ρ.set i (.val d))
  | _ => none
def mvR (ρ : Env) (i k : Nat) : R → Option (D × Env)
  | .own k' d => if k ≤ k' then some (d, ρ.set i .un) else none
  | _ => none
def isIoR : R → Bool
  | .io _ _ => true
  | _ => false
def excS : R → Option Str
  | .exc c => some c
  | _ => none
def xnonR (ρ : Env) : R → Option (D × Env)
  | .exc _ => some (.bool false, ρ)
  | .val d => some (.bool (isNon d), ρ)
  | _ => none
def xargR (i : Nat) : R → Option Ar
  | .exc _ => some (.exc i)
  | .val d => some (.now d)
  | _ => none
/-- a try's body, then what is caught -/
def tryO {α : Type} (x y : Option α) (t : Lz y := .z) : Option α := match x with
  | some r => some r
  | none => y
/-- what a block refuses with -/
def rsO (x : Option Res) (f : Env → Option (Str × Env)) (y : Option (Str × Env)) (t : Lz f := .z) (u : Lz y := .z) : Option (Str × Env) := match x with
  | some (.nx ρ') => f ρ'
  | some _ => none
  | none => y
theorem W.try_ok {α : Type} {x y : Option α} {Q : α → Prop} {t u} (h : W x Q) : W (tryO x y t) Q u := by
  obtain ⟨a, e, q⟩ := h
  exact ⟨a, by rw [e]; rfl, q⟩
theorem W.try_no {α : Type} {x y : Option α} {Q : α → Prop} {t u} (e : x = none) (h : W y Q) : W (tryO x y t) Q u := by
  obtain ⟨a, e2, q⟩ := h
  exact ⟨a, by rw [e]; exact e2, q⟩
theorem W.rs_no {x : Option Res} {f y} {Q : Str × Env → Prop} {t u v} (e : x = none) (h : W y Q) : W (rsO x f y t u) Q v := by
  obtain ⟨a, e2, q⟩ := h
  exact ⟨a, by rw [e]; exact e2, q⟩
section
variable (C : Calls) (G : Nat → D) (O : Nat → Nat)
def cB (e : Ex) (t : Tg) (cs : Exs) (own : List Nat) (d : D) (ρ : Env) : Option (Option D × Env) :=
  bnd (bindT t d ρ) fun ρ2 => bnd (evAnd C G cs ρ2) fun c => bnd (boolOf c.1) fun z =>
    cnd z (bnd (evE C G e c.2) fun x => some (some x.1, kills x.2 own)) (some (none, kills c.2 own))
def compB (e : Ex) (t : Tg) (cs : Exs) (own : List Nat) (ds : List D) (ρ : Env) : Option (List D × Env) := compL (cB C G e t cs own) ds ρ
def fB (t : Tg) (b : Sms) (d : D) (ρ : Env) : Option Res := bnd (bindT t d ρ) fun ρ' => evSs C G O b ρ'
/-- a turn of a loop that hands out lists -/
def mvB1 (x k : Nat) (b : Sms) (d : D) (ρ : Env) : Option Res := bnd (putR ρ x (mkR k d)) fun ρ' => evSs C G O b ρ'
def mvB (x k : Nat) (b : Sms) (ks : List Nat) (ds : List D) (ρ : Env) : Option Res := forL (mvB1 C G O x k b) ks ds ρ
def forB (t : Tg) (b : Sms) (ks : List Nat) (ds : List D) (ρ : Env) : Option Res := forL (fB C G O t b) ks ds ρ
def whlB (c : Ex) (b : Sms) (ks : List Nat) (n : Nat) (ρ : Env) : Option Res := whlL (evE C G c) (evSs C G O b) ks n ρ
/-- a list lent -/
def lndE (i : Nat) (e : Ex) (ρ : Env) : R → Option (D × Env)
  | .own k d => bnd (evE C G e (ρ.set i (.val d))) fun p => if (flatD p.1 && backOk (ρ.set i (.val d)) p.2) = true then some (p.1, p.2.set i (.own k d)) else none
  | _ => bnd (evE C G e ρ) fun p => if flatD p.1 = true then some p else none
def lndE2 (i j : Nat) (e : Ex) (ρ : Env) : R → R → Option (D × Env)
  | .own k d, .own k' d' => if i = j then none else bnd (evE C G e ((ρ.set i (.val d)).set j (.val d'))) fun p => if (flatD p.1 && backOk ((ρ.set i (.val d)).set j (.val d')) p.2) = true then some (p.1, (p.2.set j (.own k' d')).set i (.own k d)) else none
  | _, _ => none
def lateOr (e : Ex) (ρ : Env) (k : Option (D × Env)) : Option (Op × Env) := opE e (fun _ => k) ρ
end
namespace Ev
section
variable {C : Calls} {G : Nat → D} {O : Nat → Nat} {ρ : Env}
@[scoped simp] theorem lnd_own {i e k d} : lndE C G i e ρ (.own k d) = bnd (evE C G e (ρ.set i (.val d))) fun p => if (flatD p.1 && backOk (ρ.set i (.val d)) p.2) = true then some (p.1, p.2.set i (.own k d)) else none := id rfl
@[scoped simp] theorem lnd_val {i e d} : lndE C G i e ρ (.val d) = bnd (evE C G e ρ) fun p => if flatD p.1 = true then some p else none := id rfl
@[scoped simp] theorem lnd2_own {i j e k d k' d'} : lndE2 C G i j e ρ (.own k d) (.own k' d') = if i = j then none else bnd (evE C G e ((ρ.set i (.val d)).set j (.val d'))) fun p => if (flatD p.1 && backOk ((ρ.set i (.val d)).set j (.val d')) p.2) = true then some (p.1, (p.2.set j (.own k' d')).set i (.own k d)) else none := id rfl
@[scoped simp] theorem bk_n : backOk [] [] = true := id rfl
@[scoped simp] theorem bk_c {r q : R} {rs qs : Env} : backOk (r :: rs) (q :: qs) = (bk r q && backOk rs qs) := id rfl
@[scoped simp] theorem bk_un {r : R} : bk r .un = true := by cases r <;> rfl
@[scoped simp] theorem bk_vv {d : D} : bk (.val d) (.val d) = true := by
  show (sameD d d || noL d) = true
  have : sameD d d = true := @decide_eq_true _ (Classical.propDecidable _) rfl
  rw [this]
  rfl
@[scoped simp] theorem nol_s {l : List D} : noLs l = l.all noL := by
  induction l with
  | nil => rfl
  | cons d l ih => rw [noLs, ih]; rfl
@[scoped simp] theorem nol_i {i : Int} : noL (.int i) = true := id rfl
@[scoped simp] theorem nol_b {i : Bool} : noL (.bool i) = true := id rfl
@[scoped simp] theorem nol_x {i : Str} : noL (.str i) = true := id rfl
@[scoped simp] theorem nol_n : noL .none = true := id rfl
@[scoped simp] theorem nol_t {l : List D} : noL (.tuple l) = l.all noL := (show noL (.tuple l) = noLs l from rfl).trans nol_s
@[scoped simp] theorem bk_ol {r : R} {l : List D} : bk r (.own 1 (.list l)) = l.all noL := by cases r <;> exact nol_s
@[scoped simp] theorem bk_il {r : R} {l : List D} : bk r (.io 1 (.list l)) = l.all noL := by cases r <;> exact nol_s
@[scoped simp] theorem bk_scr {r : R} {l : List Int} : bk r (.scr l) = true := by cases r <;> rfl
@[scoped simp] theorem bk_exc {r : R} {l : Str} : bk r (.exc l) = true := by cases r <;> rfl
@[scoped simp] theorem rdR_val {i d} : rdR ρ i (.val d) = some (d, ρ) := id rfl
@[scoped simp] theorem rdR_own {i k d} : rdR ρ i (.own k d) = some (d, ρ.set i (.val d)) := id rfl
@[scoped simp] theorem mvR_own {i k k' d} : mvR ρ i k (.own k' d) = if k ≤ k' then some (d, ρ.set i .un) else none := id rfl
@[scoped simp] theorem isIoR_val {d} : isIoR (.val d) = false := id rfl
@[scoped simp] theorem isIoR_own {k d} : isIoR (.own k d) = false := id rfl
@[scoped simp] theorem isIoR_un : isIoR .un = false := id rfl
@[scoped simp] theorem isIoR_io {k d} : isIoR (.io k d) = true := id rfl
@[scoped simp] theorem isIoR_scr {l} : isIoR (.scr l) = false := id rfl
@[scoped simp] theorem isIoR_exc {l} : isIoR (.exc l) = false := id rfl
@[scoped simp] theorem excS_exc {c} : excS (.exc c) = some c := id rfl
@[scoped simp] theorem xnonR_exc {c} : xnonR ρ (.exc c) = some (.bool false, ρ) := id rfl
@[scoped simp] theorem xnonR_val {d} : xnonR ρ (.val d) = some (.bool (isNon d), ρ) := id rfl
@[scoped simp] theorem xargR_exc {i c} : xargR i (.exc c) = some (.exc i) := id rfl
@[scoped simp] theorem xargR_val {i d} : xargR i (.val d) = some (.now d) := id rfl
@[scoped simp] theorem tryO_some {α : Type} {x : α} {y t} : tryO (some x) y t = some x := id rfl
@[scoped simp] theorem tryO_none {α : Type} {y : Option α} {t} : tryO none y t = y := id rfl
@[scoped simp] theorem rsO_nx {f y t u} : rsO (some (.nx ρ)) f y t u = f ρ := id rfl
@[scoped simp] theorem rsO_none {f y t u} : rsO none f y t u = y := id rfl
@[scoped simp] theorem excOf_eq {i} : excOf ρ i = excS (slot ρ i) := by unfold excOf; cases slot ρ i <;> rfl
@[scoped simp] theorem putR_eq {i : Nat} {r : R} : putR ρ i r = if isIoR (slot ρ i) = true then none else if i < ρ.length then some (ρ.set i r) else none := by
  unfold putR
  cases slot ρ i <;> rfl
@[scoped simp] theorem viewR_val {d} : viewR (.val d) = some (0, d) := id rfl
@[scoped simp] theorem viewR_own {k d} : viewR (.own k d) = some (k, d) := id rfl
@[scoped simp] theorem viewR_io {k d} : viewR (.io k d) = some (k, d) := id rfl
@[scoped simp] theorem bindT_var {i d} : bindT (.var i) d ρ = putR ρ i (.val d) := by simp only [bindT]
@[scoped simp] theorem bindT_tup {ts l} : bindT (.tup ts) (.tuple l) ρ = bindTs ts l ρ := by simp only [bindT]
@[scoped simp] theorem bindT_tupl {ts l} : bindT (.tup ts) (.list l) ρ = bindTs ts l ρ := by simp only [bindT]
@[scoped simp] theorem bindTs_nil : bindTs .nil [] ρ = some ρ := by simp only [bindTs]
@[scoped simp] theorem bindTs_cons {t ts d l} : bindTs (.cons t ts) (d :: l) ρ = bnd (bindT t d ρ) fun ρ1 => bindTs ts l ρ1 := by rw [bindTs]; rfl
@[scoped simp] theorem op_var {i k} : opE (.var i) k ρ = bnd (viewR (slot ρ i)) fun _ => some (.late i, ρ) := id rfl
theorem op_n {e k} (h : ∀ i, e = .var i → False) : opE e k ρ = bnd (k ρ) fun p => some (.now p.1, p.2) := by
  unfold opE
  split
  · exact (h _ rfl).elim
  · rfl
@[scoped simp] theorem op_non {k} : opE .non k ρ = bnd (k ρ) fun p => some (.now p.1, p.2) := id rfl
@[scoped simp] theorem op_bl {b k} : opE (.bl b) k ρ = bnd (k ρ) fun p => some (.now p.1, p.2) := id rfl
@[scoped simp] theorem op_int {b k} : opE (.int b) k ρ = bnd (k ρ) fun p => some (.now p.1, p.2) := id rfl
@[scoped simp] theorem op_str {b k} : opE (.str b) k ρ = bnd (k ρ) fun p => some (.now p.1, p.2) := id rfl
@[scoped simp] theorem op_mv {a b k} : opE (.mv a b) k ρ = bnd (k ρ) fun p => some (.now p.1, p.2) := id rfl
@[scoped simp] theorem op_sidx {a b k} : opE (.sidx a b) k ρ = bnd (k ρ) fun p => some (.now p.1, p.2) := id rfl
@[scoped simp] theorem op_slen {a k} : opE (.slen a) k ρ = bnd (k ρ) fun p => some (.now p.1, p.2) := id rfl
@[scoped simp] theorem op_pth {a b k} : opE (.pth a b) k ρ = bnd (k ρ) fun p => some (.now p.1, p.2) := id rfl
@[scoped simp] theorem op_glob {a k} : opE (.glob a) k ρ = bnd (k ρ) fun p => some (.now p.1, p.2) := id rfl
@[scoped simp] theorem op_bin {o a b k} : opE (.bin o a b) k ρ = bnd (k ρ) fun p => some (.now p.1, p.2) := id rfl
@[scoped simp] theorem op_neg {a k} : opE (.neg a) k ρ = bnd (k ρ) fun p => some (.now p.1, p.2) := id rfl
@[scoped simp] theorem op_cmp {o a b k} : opE (.cmp o a b) k ρ = bnd (k ρ) fun p => some (.now p.1, p.2) := id rfl
@[scoped simp] theorem op_chn {o o' a b c k} : opE (.chn o o' a b c) k ρ = bnd (k ρ) fun p => some (.now p.1, p.2) := id rfl
@[scoped simp] theorem op_and {a k} : opE (.and a) k ρ = bnd (k ρ) fun p => some (.now p.1, p.2) := id rfl
@[scoped simp] theorem op_or {a k} : opE (.or a) k ρ = bnd (k ρ) fun p => some (.now p.1, p.2) := id rfl
@[scoped simp] theorem op_not {a k} : opE (.not a) k ρ = bnd (k ρ) fun p => some (.now p.1, p.2) := id rfl
@[scoped simp] theorem op_ite {a b c k} : opE (.ite a b c) k ρ = bnd (k ρ) fun p => some (.now p.1, p.2) := id rfl
@[scoped simp] theorem op_tup {a k} : opE (.tup a) k ρ = bnd (k ρ) fun p => some (.now p.1, p.2) := id rfl
@[scoped simp] theorem op_lst {a k} : opE (.lst a) k ρ = bnd (k ρ) fun p => some (.now p.1, p.2) := id rfl
@[scoped simp] theorem op_idx {a b k} : opE (.idx a b) k ρ = bnd (k ρ) fun p => some (.now p.1, p.2) := id rfl
@[scoped simp] theorem op_slc {a b c k} : opE (.slc a b c) k ρ = bnd (k ρ) fun p => some (.now p.1, p.2) := id rfl
@[scoped simp] theorem op_rev {a k} : opE (.rev a) k ρ = bnd (k ρ) fun p => some (.now p.1, p.2) := id rfl
@[scoped simp] theorem op_comp {a b c d e k} : opE (.comp a b c d e) k ρ = bnd (k ρ) fun p => some (.now p.1, p.2) := id rfl
@[scoped simp] theorem op_call {a b k} : opE (.call a b) k ρ = bnd (k ρ) fun p => some (.now p.1, p.2) := id rfl
@[scoped simp] theorem op_blt {a b k} : opE (.blt a b) k ρ = bnd (k ρ) fun p => some (.now p.1, p.2) := id rfl
@[scoped simp] theorem op_blt2 {a b c k} : opE (.blt2 a b c) k ρ = bnd (k ρ) fun p => some (.now p.1, p.2) := id rfl
@[scoped simp] theorem op_lrng {a k} : opE (.lrng a) k ρ = bnd (k ρ) fun p => some (.now p.1, p.2) := id rfl
@[scoped simp] theorem op_trng {a k} : opE (.trng a) k ρ = bnd (k ρ) fun p => some (.now p.1, p.2) := id rfl
@[scoped simp] theorem op_isi {a b c k} : opE (.isi a b c) k ρ = bnd (k ρ) fun p => some (.now p.1, p.2) := id rfl
@[scoped simp] theorem op_mth {a b c k} : opE (.mth a b c) k ρ = bnd (k ρ) fun p => some (.now p.1, p.2) := id rfl
@[scoped simp] theorem op_pop {a b k} : opE (.pop a b) k ρ = bnd (k ρ) fun p => some (.now p.1, p.2) := id rfl
@[scoped simp] theorem op_tget {x0 x1 k} : opE (.tget x0 x1) k ρ = bnd (k ρ) fun p => some (.now p.1, p.2) := id rfl
@[scoped simp] theorem op_tmem {x0 x1 k} : opE (.tmem x0 x1) k ρ = bnd (k ρ) fun p => some (.now p.1, p.2) := id rfl
@[scoped simp] theorem op_dsp {x0 x1 x2 k} : opE (.dsp x0 x1 x2) k ρ = bnd (k ρ) fun p => some (.now p.1, p.2) := id rfl
@[scoped simp] theorem op_dspd {x0 x1 x2 x3 k} : opE (.dspd x0 x1 x2 x3) k ρ = bnd (k ρ) fun p => some (.now p.1, p.2) := id rfl
@[scoped simp] theorem op_chn3 {x0 x1 x2 x3 x4 x5 x6 k} : opE (.chn3 x0 x1 x2 x3 x4 x5 x6) k ρ = bnd (k ρ) fun p => some (.now p.1, p.2) := id rfl
@[scoped simp] theorem op_setlen {x0 k} : opE (.setlen x0) k ρ = bnd (k ρ) fun p => some (.now p.1, p.2) := id rfl
@[scoped simp] theorem op_lnd {x0 x1 k} : opE (.lnd x0 x1) k ρ = bnd (k ρ) fun p => some (.now p.1, p.2) := id rfl
@[scoped simp] theorem op_lnd2 {x0 x1 x2 k} : opE (.lnd2 x0 x1 x2) k ρ = bnd (k ρ) fun p => some (.now p.1, p.2) := id rfl
@[scoped simp] theorem op_ixs {x0 x1 k} : opE (.ixs x0 x1) k ρ = bnd (k ρ) fun p => some (.now p.1, p.2) := id rfl
@[scoped simp] theorem op_isx {x0 x1 k} : opE (.isx x0 x1) k ρ = bnd (k ρ) fun p => some (.now p.1, p.2) := id rfl
@[scoped simp] theorem op_xnon {x0 k} : opE (.xnon x0) k ρ = bnd (k ρ) fun p => some (.now p.1, p.2) := id rfl
/-- one operand -/
@[scoped simp] theorem o1_var {i k} : op1 (.var i) k ρ = bnd (viewR (slot ρ i)) fun x => some (x, ρ) := id rfl
@[scoped simp] theorem o1_pth {i p k} : op1 (.pth i p) k ρ = bnd (viewR (slot ρ i)) fun x => bnd (walkP ρ p x.1 x.2) fun y => some (y, ρ) := id rfl
@[scoped simp] theorem o1_non { k} : op1 (.non ) k ρ = bnd (k ρ) fun p => some ((0, p.1), p.2) := id rfl
@[scoped simp] theorem o1_bl {x0 k} : op1 (.bl x0) k ρ = bnd (k ρ) fun p => some ((0, p.1), p.2) := id rfl
@[scoped simp] theorem o1_int {x0 k} : op1 (.int x0) k ρ = bnd (k ρ) fun p => some ((0, p.1), p.2) := id rfl
@[scoped simp] theorem o1_str {x0 k} : op1 (.str x0) k ρ = bnd (k ρ) fun p => some ((0, p.1), p.2) := id rfl
@[scoped simp] theorem o1_mv {x0 x1 k} : op1 (.mv x0 x1) k ρ = bnd (k ρ) fun p => some ((0, p.1), p.2) := id rfl
@[scoped simp] theorem o1_sidx {x0 x1 k} : op1 (.sidx x0 x1) k ρ = bnd (k ρ) fun p => some ((0, p.1), p.2) := id rfl
@[scoped simp] theorem o1_slen {x0 k} : op1 (.slen x0) k ρ = bnd (k ρ) fun p => some ((0, p.1), p.2) := id rfl
@[scoped simp] theorem o1_glob {x0 k} : op1 (.glob x0) k ρ = bnd (k ρ) fun p => some ((0, p.1), p.2) := id rfl
@[scoped simp] theorem o1_bin {x0 x1 x2 k} : op1 (.bin x0 x1 x2) k ρ = bnd (k ρ) fun p => some ((0, p.1), p.2) := id rfl
@[scoped simp] theorem o1_neg {x0 k} : op1 (.neg x0) k ρ = bnd (k ρ) fun p => some ((0, p.1), p.2) := id rfl
@[scoped simp] theorem o1_cmp {x0 x1 x2 k} : op1 (.cmp x0 x1 x2) k ρ = bnd (k ρ) fun p => some ((0, p.1), p.2) := id rfl
@[scoped simp] theorem o1_chn {x0 x1 x2 x3 x4 k} : op1 (.chn x0 x1 x2 x3 x4) k ρ = bnd (k ρ) fun p => some ((0, p.1), p.2) := id rfl
@[scoped simp] theorem o1_and {x0 k} : op1 (.and x0) k ρ = bnd (k ρ) fun p => some ((0, p.1), p.2) := id rfl
@[scoped simp] theorem o1_or {x0 k} : op1 (.or x0) k ρ = bnd (k ρ) fun p => some ((0, p.1), p.2) := id rfl
@[scoped simp] theorem o1_not {x0 k} : op1 (.not x0) k ρ = bnd (k ρ) fun p => some ((0, p.1), p.2) := id rfl
@[scoped simp] theorem o1_ite {x0 x1 x2 k} : op1 (.ite x0 x1 x2) k ρ = bnd (k ρ) fun p => some ((0, p.1), p.2) := id rfl
@[scoped simp] theorem o1_tup {x0 k} : op1 (.tup x0) k ρ = bnd (k ρ) fun p => some ((0, p.1), p.2) := id rfl
@[scoped simp] theorem o1_lst {x0 k} : op1 (.lst x0) k ρ = bnd (k ρ) fun p => some ((0, p.1), p.2) := id rfl
@[scoped simp] theorem o1_idx {x0 x1 k} : op1 (.idx x0 x1) k ρ = bnd (k ρ) fun p => some ((0, p.1), p.2) := id rfl
@[scoped simp] theorem o1_slc {x0 x1 x2 k} : op1 (.slc x0 x1 x2) k ρ = bnd (k ρ) fun p => some ((0, p.1), p.2) := id rfl
@[scoped simp] theorem o1_rev {x0 k} : op1 (.rev x0) k ρ = bnd (k ρ) fun p => some ((0, p.1), p.2) := id rfl
@[scoped simp] theorem o1_comp {x0 x1 x2 x3 x4 k} : op1 (.comp x0 x1 x2 x3 x4) k ρ = bnd (k ρ) fun p => some ((0, p.1), p.2) := id rfl
@[scoped simp] theorem o1_call {x0 x1 k} : op1 (.call x0 x1) k ρ = bnd (k ρ) fun p => some ((0, p.1), p.2) := id rfl
@[scoped simp] theorem o1_blt {x0 x1 k} : op1 (.blt x0 x1) k ρ = bnd (k ρ) fun p => some ((0, p.1), p.2) := id rfl
@[scoped simp] theorem o1_blt2 {x0 x1 x2 k} : op1 (.blt2 x0 x1 x2) k ρ = bnd (k ρ) fun p => some ((0, p.1), p.2) := id rfl
@[scoped simp] theorem o1_lrng {x0 k} : op1 (.lrng x0) k ρ = bnd (k ρ) fun p => some ((0, p.1), p.2) := id rfl
@[scoped simp] theorem o1_trng {x0 k} : op1 (.trng x0) k ρ = bnd (k ρ) fun p => some ((0, p.1), p.2) := id rfl
@[scoped simp] theorem o1_isi {x0 x1 x2 k} : op1 (.isi x0 x1 x2) k ρ = bnd (k ρ) fun p => some ((0, p.1), p.2) := id rfl
@[scoped simp] theorem o1_mth {x0 x1 x2 k} : op1 (.mth x0 x1 x2) k ρ = bnd (k ρ) fun p => some ((0, p.1), p.2) := id rfl
@[scoped simp] theorem o1_pop {x0 x1 k} : op1 (.pop x0 x1) k ρ = bnd (k ρ) fun p => some ((0, p.1), p.2) := id rfl
@[scoped simp] theorem o1_tget {x0 x1 k} : op1 (.tget x0 x1) k ρ = bnd (k ρ) fun p => some ((0, p.1), p.2) := id rfl
@[scoped simp] theorem o1_tmem {x0 x1 k} : op1 (.tmem x0 x1) k ρ = bnd (k ρ) fun p => some ((0, p.1), p.2) := id rfl
@[scoped simp] theorem o1_dsp {x0 x1 x2 k} : op1 (.dsp x0 x1 x2) k ρ = bnd (k ρ) fun p => some ((0, p.1), p.2) := id rfl
@[scoped simp] theorem o1_dspd {x0 x1 x2 x3 k} : op1 (.dspd x0 x1 x2 x3) k ρ = bnd (k ρ) fun p => some ((0, p.1), p.2) := id rfl
@[scoped simp] theorem o1_chn3 {x0 x1 x2 x3 x4 x5 x6 k} : op1 (.chn3 x0 x1 x2 x3 x4 x5 x6) k ρ = bnd (k ρ) fun p => some ((0, p.1), p.2) := id rfl
@[scoped simp] theorem o1_setlen {x0 k} : op1 (.setlen x0) k ρ = bnd (k ρ) fun p => some ((0, p.1), p.2) := id rfl
@[scoped simp] theorem o1_lnd {x0 x1 k} : op1 (.lnd x0 x1) k ρ = bnd (k ρ) fun p => some ((0, p.1), p.2) := id rfl
@[scoped simp] theorem o1_lnd2 {x0 x1 x2 k} : op1 (.lnd2 x0 x1 x2) k ρ = bnd (k ρ) fun p => some ((0, p.1), p.2) := id rfl
@[scoped simp] theorem o1_ixs {x0 x1 k} : op1 (.ixs x0 x1) k ρ = bnd (k ρ) fun p => some ((0, p.1), p.2) := id rfl
@[scoped simp] theorem o1_isx {x0 x1 k} : op1 (.isx x0 x1) k ρ = bnd (k ρ) fun p => some ((0, p.1), p.2) := id rfl
@[scoped simp] theorem o1_xnon {x0 k} : op1 (.xnon x0) k ρ = bnd (k ρ) fun p => some ((0, p.1), p.2) := id rfl
/-! expressions -/
@[scoped simp] theorem e_non : evE C G .non ρ = some (.none, ρ) := by simp only [evE]
@[scoped simp] theorem e_bl {b} : evE C G (.bl b) ρ = some (.bool b, ρ) := by simp only [evE]
@[scoped simp] theorem e_int {i} : evE C G (.int i) ρ = some (.int i, ρ) := by simp only [evE]
@[scoped simp] theorem e_str {i} : evE C G (.str i) ρ = some (.str i, ρ) := by simp only [evE]
@[scoped simp] theorem e_var {i} : evE C G (.var i) ρ = rdR ρ i (slot ρ i) := by
  simp only [evE]
  cases slot ρ i <;> rfl
@[scoped simp] theorem e_mv {i k} : evE C G (.mv i k) ρ = mvR ρ i k (slot ρ i) := by
  simp only [evE]
  cases slot ρ i <;> rfl
@[scoped simp] theorem e_sidx {i e} : evE C G (.sidx i e) ρ = bnd (scrOf ρ i) fun l => bnd (evE C G e ρ) fun p => bnd (intOf p.1) fun n => bnd (atI l n) fun z => some (.int z, p.2) := by simp only [evE]; rfl
@[scoped simp] theorem e_slen {i} : evE C G (.slen i) ρ = bnd (scrOf ρ i) fun l => some (.int l.length, ρ) := by simp only [evE]; rfl
@[scoped simp] theorem e_pth {i p} : evE C G (.pth i p) ρ = bnd (viewR (slot ρ i)) fun x => bnd (walkP ρ p x.1 x.2) fun y => if y.1 = 0 then some (y.2, ρ) else none := by simp only [evE]; rfl
@[scoped simp] theorem e_glob {g} : evE C G (.glob g) ρ = some (G g, ρ) := by simp only [evE]
@[scoped simp] theorem e_bin {o a b} : evE C G (.bin o a b) ρ = bnd (opE a (evE C G a) ρ) fun p => bnd (opE b (evE C G b) p.2) fun q => bnd (vw q.2 p.1) fun x => bnd (vw q.2 q.1) fun y =>
      if x.1 ≤ 1 ∧ y.1 ≤ 1 then bnd (binD o x.2 y.2) fun z => some (z, q.2) else none := by simp only [evE]; rfl
@[scoped simp] theorem e_neg {a} : evE C G (.neg a) ρ = bnd (evE C G a ρ) fun p => bnd (numOf p.1) fun i => some (.int (-i), p.2) := by simp only [evE]; rfl
@[scoped simp] theorem e_cmp {o a b} : evE C G (.cmp o a b) ρ = bnd (opE a (evE C G a) ρ) fun p => bnd (opE b (evE C G b) p.2) fun q => bnd (vw q.2 p.1) fun x => bnd (vw q.2 q.1) fun y =>
      bnd (cmpD o x.2 y.2) fun z => some (.bool z, q.2) := by simp only [evE]; rfl
@[scoped simp] theorem e_chn {o o' a b c} : evE C G (.chn o o' a b c) ρ = bnd (opE a (evE C G a) ρ) fun p => bnd (opE b (evE C G b) p.2) fun q => bnd (vw q.2 p.1) fun x => bnd (vw q.2 q.1) fun y =>
      bnd (cmpD o x.2 y.2) fun z => cnd z (bnd (opE c (evE C G c) q.2) fun r => bnd (vw r.2 q.1) fun y => bnd (vw r.2 r.1) fun w => bnd (cmpD o' y.2 w.2) fun z => some (.bool z, r.2)) (some (.bool false, q.2)) := by simp only [evE]; rfl
@[scoped simp] theorem e_and {es} : evE C G (.and es) ρ = evAnd C G es ρ := by simp only [evE]
@[scoped simp] theorem e_or {es} : evE C G (.or es) ρ = evOr C G es ρ := by simp only [evE]
@[scoped simp] theorem e_not {a} : evE C G (.not a) ρ = bnd (evE C G a ρ) fun p => bnd (boolOf p.1) fun b => some (.bool (!b), p.2) := by simp only [evE]; rfl
@[scoped simp] theorem e_ite {c a b} : evE C G (.ite c a b) ρ = bnd (evE C G c ρ) fun p => bnd (boolOf p.1) fun z => cnd z (evE C G a p.2) (evE C G b p.2) := by simp only [evE]; rfl
@[scoped simp] theorem e_tup {es} : evE C G (.tup es) ρ = bnd (evL C G es ρ) fun p => some (.tuple p.1, p.2) := by simp only [evE]; rfl
@[scoped simp] theorem e_lst {es} : evE C G (.lst es) ρ = bnd (evL C G es ρ) fun p => some (.list p.1, p.2) := by simp only [evE]; rfl
@[scoped simp] theorem e_idx {a i} : evE C G (.idx a i) ρ = bnd (opE a (evE C G a) ρ) fun p => bnd (opE i (evE C G i) p.2) fun q => bnd (vw q.2 p.1) fun x => bnd (vw q.2 q.1) fun y =>
      if x.1 ≤ 1 then bnd (idxD x.2 y.2) fun z => some (z, q.2) else none := by simp only [evE]; rfl
@[scoped simp] theorem e_slc {a lo hi} : evE C G (.slc a lo hi) ρ = bnd (opE a (evE C G a) ρ) fun p => bnd (partE (evL C G lo) p.2) fun q => bnd (partE (evL C G hi) q.2) fun r => bnd (vw r.2 p.1) fun x =>
      if x.1 ≤ 1 then bnd (slcD x.2 q.1 r.1) fun z => some (z, r.2) else none := by simp only [evE]; rfl
@[scoped simp] theorem part_eq {k : Env → Option (List D × Env)} : partE k ρ = bnd (k ρ) fun q => bnd (optI (head? q.1)) fun o => some (o, q.2) := id rfl
@[scoped simp] theorem e_rev {a} : evE C G (.rev a) ρ = bnd (op1 a (evE C G a) ρ) fun p => if p.1.1 ≤ 1 then (match p.1.2 with
      | .list l => some (.list l.reverse, p.2)
      | .tuple l => some (.tuple l.reverse, p.2)
      | _ => none) else none := by simp only [evE]; rfl
@[scoped simp] theorem e_comp {e t it cs own} : evE C G (.comp e t it cs own) ρ = bnd (evI C G it ρ) fun p => bnd (compB C G e t cs own p.1 (kills p.2 own)) fun q => some (.list q.1, resto p.2 own q.2) := by simp only [evE]; rfl
@[scoped simp] theorem e_call {f as} : evE C G (.call f as) ρ = bnd (evA C G as ρ) fun p => if ioOk p.1 = true then bnd (arR p.2 p.1) fun rs => bnd (C f rs) fun q => some (q.1, putBack p.2 p.1 q.2 (dropI p.1 p.2)) else none := by simp only [evE]; rfl
@[scoped simp] theorem e_blt {b a} : evE C G (.blt b a) ρ = bnd (op1 a (evE C G a) ρ) fun p => if p.1.1 ≤ 1 ∨ b = .len then bnd (bltD b p.1.2) fun z => some (z, p.2) else none := by simp only [evE]; rfl
@[scoped simp] theorem e_blt2 {b a c} : evE C G (.blt2 b a c) ρ = bnd (evE C G a ρ) fun p => bnd (evE C G c p.2) fun q => bnd (blt2D b p.1 q.1) fun z => some (z, q.2) := by simp only [evE]; rfl
@[scoped simp] theorem e_lrng {a} : evE C G (.lrng a) ρ = bnd (evE C G a ρ) fun p => bnd (intOf p.1) fun n => if rngOk n then some (.list (upTo 0 n.toNat), p.2) else none := by simp only [evE]; rfl
@[scoped simp] theorem e_trng {a} : evE C G (.trng a) ρ = bnd (evE C G a ρ) fun p => bnd (intOf p.1) fun n => if rngOk n then some (.tuple (upTo 0 n.toNat), p.2) else none := by simp only [evE]; rfl
@[scoped simp] theorem e_isi {a ts one} : evE C G (.isi a ts one) ρ = bnd (op1 a (evE C G a) ρ) fun p => some (.bool (ts.any fun t => isTy t p.1.2), p.2) := by simp only [evE]; rfl
@[scoped simp] theorem e_mth {m o as} : evE C G (.mth m o as) ρ = bnd (opE o (evE C G o) ρ) fun p => bnd (vw p.2 p.1) fun y => if rcOk m y.2 = true then bnd (evL C G as p.2) fun q => bnd (vw q.2 p.1) fun x => if x.1 ≤ 1 then bnd (mthD m x.2 q.1) fun z => some (z, q.2) else none else none := by simp only [evE]; rfl
@[scoped simp] theorem e_pop {i e} : evE C G (.pop i e) ρ = if isLst (slot ρ i) then bnd (evE C G e ρ) fun q => bnd (intOf q.1) fun n => bnd (viewR (slot q.2 i)) fun x => bnd (idxD x.2 (.int n)) fun z =>
      bnd (chgR q.2 (fun k l => if k = 0 then (ixAt l.length n).bind fun j => some (l.eraseIdx j) else none) [] (slot q.2 i)) fun r => some (z, q.2.set i r) else none := by simp only [evE]; rfl
@[scoped simp] theorem key_s {x} : keyD (.str x) = some x := id rfl
@[scoped simp] theorem e_tget {g e} : evE C G (.tget g e) ρ = bnd (evE C G e ρ) fun p => bnd (keyD p.1) fun z => bnd ((tabs g).lookup z) fun d => some (d, p.2) := by simp only [evE]; rfl
@[scoped simp] theorem e_tmem {g e} : evE C G (.tmem g e) ρ = bnd (evE C G e ρ) fun p => bnd (keyD p.1) fun z => some (.bool ((tabs g).lookup z).isSome, p.2) := by simp only [evE]; rfl
@[scoped simp] theorem e_dsp {ks vs e} : evE C G (.dsp ks vs e) ρ = bnd (evL C G vs ρ) fun q => if q.1.length = ks.length then bnd (evE C G e q.2) fun p => bnd (keyD p.1) fun z => bnd ((ks.zip q.1).lookup z) fun d => some (d, p.2) else none := by simp only [evE]; rfl
@[scoped simp] theorem e_dspd {ks vs e x} : evE C G (.dspd ks vs e x) ρ = bnd (evL C G vs ρ) fun q => if q.1.length = ks.length then bnd (evE C G e q.2) fun p => bnd (keyD p.1) fun z => bnd (evE C G x p.2) fun r => some (((ks.zip q.1).lookup z).getD r.1, r.2) else none := by simp only [evE]; rfl
@[scoped simp] theorem e_chn3 {o o' o2 a b c d} : evE C G (.chn3 o o' o2 a b c d) ρ = bnd (opE a (evE C G a) ρ) fun p => bnd (opE b (evE C G b) p.2) fun q => bnd (vw q.2 p.1) fun x => bnd (vw q.2 q.1) fun y =>
      bnd (cmpD o x.2 y.2) fun z => cnd z (bnd (opE c (evE C G c) q.2) fun r => bnd (vw r.2 q.1) fun y => bnd (vw r.2 r.1) fun w => bnd (cmpD o' y.2 w.2) fun z =>
        cnd z (bnd (opE d (evE C G d) r.2) fun t => bnd (vw t.2 r.1) fun w => bnd (vw t.2 t.1) fun u => bnd (cmpD o2 w.2 u.2) fun z => some (.bool z, t.2)) (some (.bool false, r.2))) (some (.bool false, q.2)) := by simp only [evE]; rfl
@[scoped simp] theorem e_setlen {a} : evE C G (.setlen a) ρ = bnd (op1 a (evE C G a) ρ) fun p => if p.1.1 ≤ 1 then bnd (setlenD p.1.2) fun z => some (z, p.2) else none := by simp only [evE]; rfl
@[scoped simp] theorem e_lnd {i e} : evE C G (.lnd i e) ρ = lndE C G i e ρ (slot ρ i) := by simp only [evE, lndE]; cases slot ρ i <;> rfl
@[scoped simp] theorem e_lnd2 {i j e} : evE C G (.lnd2 i j e) ρ = lndE2 C G i j e ρ (slot ρ i) (slot ρ j) := by simp only [evE, lndE2]; cases slot ρ i <;> cases slot ρ j <;> rfl
@[scoped simp] theorem e_ixs {o as} : evE C G (.ixs o as) ρ = bnd (opE o (evE C G o) ρ) fun p => bnd (vw p.2 p.1) fun y => if rcOk .index y.2 = true then bnd (evL C G as p.2) fun q => bnd (vw q.2 p.1) fun x => if x.1 ≤ 1 then bnd (index3L x.2 q.1) fun z => some (z, q.2) else none else none := by simp only [evE]; rfl
@[scoped simp] theorem e_isx {i cs} : evE C G (.isx i cs) ρ = bnd (excOf ρ i) fun c => some (.bool (cs.any (subC c)), ρ) := by simp only [evE]; rfl
@[scoped simp] theorem e_xnon {i} : evE C G (.xnon i) ρ = xnonR ρ (slot ρ i) := by simp only [evE]; cases slot ρ i <;> rfl
@[scoped simp] theorem and_nil : evAnd C G .nil ρ = some (.bool true, ρ) := by simp only [evAnd]
@[scoped simp] theorem and_one {e} : evAnd C G (.cons e .nil) ρ = bnd (evE C G e ρ) fun p => bnd (boolOf p.1) fun b => some (.bool b, p.2) := by
  simp only [evAnd, bnd]
  congr; funext p; congr; funext b
  cases b <;> rfl
@[scoped simp] theorem and_cons {e e2 es} : evAnd C G (.cons e (.cons e2 es)) ρ = bnd (evE C G e ρ) fun p => bnd (boolOf p.1) fun b => cnd b (evAnd C G (.cons e2 es) p.2) (some (.bool false, p.2)) := by rw [evAnd]; rfl
@[scoped simp] theorem or_nil : evOr C G .nil ρ = some (.bool false, ρ) := by simp only [evOr]
@[scoped simp] theorem or_one {e} : evOr C G (.cons e .nil) ρ = bnd (evE C G e ρ) fun p => bnd (boolOf p.1) fun b => some (.bool b, p.2) := by
  simp only [evOr, bnd]
  congr; funext p; congr; funext b
  cases b <;> rfl
@[scoped simp] theorem or_cons {e e2 es} : evOr C G (.cons e (.cons e2 es)) ρ = bnd (evE C G e ρ) fun p => bnd (boolOf p.1) fun b => cnd b (some (.bool true, p.2)) (evOr C G (.cons e2 es) p.2) := by rw [evOr]; rfl
@[scoped simp] theorem l_nil : evL C G .nil ρ = some ([], ρ) := by simp only [evL]
@[scoped simp] theorem l_cons {e es} : evL C G (.cons e es) ρ = bnd (evE C G e ρ) fun p => bnd (evL C G es p.2) fun q => some (p.1 :: q.1, q.2) := by rw [evL]; rfl
@[scoped simp] theorem a_nil' : evA C G .nil ρ = some ([], ρ) := by simp only [evA]
@[scoped simp] theorem a_io' {i es} : evA C G (.cons (.io i) es) ρ = bnd (ioR ρ i) fun _ => bnd (evA C G es ρ) fun q => some (.io i :: q.1, q.2) := by simp only [evA, bnd]; cases ioR ρ i <;> rfl
@[scoped simp] theorem a_sarg' {i es} : evA C G (.cons (.sarg i) es) ρ = bnd (scrOf ρ i) fun x => bnd (evA C G es ρ) fun q => some (.scr i :: q.1, q.2) := by simp only [evA, bnd]; cases scrOf ρ i <;> rfl
@[scoped simp] theorem a_xarg {i es} : evA C G (.cons (.xarg i) es) ρ = bnd (xargR i (slot ρ i)) fun x => bnd (evA C G es ρ) fun q => some (x :: q.1, q.2) := by simp only [evA, bnd]; cases slot ρ i <;> rfl
@[scoped simp] theorem a_non { es} : evA C G (.cons .non es) ρ = bnd (evE C G .non ρ) fun p => bnd (evA C G es p.2) fun q => some (.now p.1 :: q.1, q.2) := by rw [evA.eq_5 _ _ _ _ _ (by simp) (by simp) (by simp)]; cases evE C G .non ρ <;> rfl
@[scoped simp] theorem a_bl {x0 es} : evA C G (.cons (.bl x0) es) ρ = bnd (evE C G (.bl x0) ρ) fun p => bnd (evA C G es p.2) fun q => some (.now p.1 :: q.1, q.2) := by rw [evA.eq_5 _ _ _ _ _ (by simp) (by simp) (by simp)]; cases evE C G (.bl x0) ρ <;> rfl
@[scoped simp] theorem a_int {x0 es} : evA C G (.cons (.int x0) es) ρ = bnd (evE C G (.int x0) ρ) fun p => bnd (evA C G es p.2) fun q => some (.now p.1 :: q.1, q.2) := by rw [evA.eq_5 _ _ _ _ _ (by simp) (by simp) (by simp)]; cases evE C G (.int x0) ρ <;> rfl
@[scoped simp] theorem a_str {x0 es} : evA C G (.cons (.str x0) es) ρ = bnd (evE C G (.str x0) ρ) fun p => bnd (evA C G es p.2) fun q => some (.now p.1 :: q.1, q.2) := by rw [evA.eq_5 _ _ _ _ _ (by simp) (by simp) (by simp)]; cases evE C G (.str x0) ρ <;> rfl
@[scoped simp] theorem a_mv {x0 x1 es} : evA C G (.cons (.mv x0 x1) es) ρ = bnd (evE C G (.mv x0 x1) ρ) fun p => bnd (evA C G es p.2) fun q => some (.now p.1 :: q.1, q.2) := by rw [evA.eq_5 _ _ _ _ _ (by simp) (by simp) (by simp)]; cases evE C G (.mv x0 x1) ρ <;> rfl
@[scoped simp] theorem a_sidx {x0 x1 es} : evA C G (.cons (.sidx x0 x1) es) ρ = bnd (evE C G (.sidx x0 x1) ρ) fun p => bnd (evA C G es p.2) fun q => some (.now p.1 :: q.1, q.2) := by rw [evA.eq_5 _ _ _ _ _ (by simp) (by simp) (by simp)]; cases evE C G (.sidx x0 x1) ρ <;> rfl
@[scoped simp] theorem a_slen {x0 es} : evA C G (.cons (.slen x0) es) ρ = bnd (evE C G (.slen x0) ρ) fun p => bnd (evA C G es p.2) fun q => some (.now p.1 :: q.1, q.2) := by rw [evA.eq_5 _ _ _ _ _ (by simp) (by simp) (by simp)]; cases evE C G (.slen x0) ρ <;> rfl
@[scoped simp] theorem a_glob {x0 es} : evA C G (.cons (.glob x0) es) ρ = bnd (evE C G (.glob x0) ρ) fun p => bnd (evA C G es p.2) fun q => some (.now p.1 :: q.1, q.2) := by rw [evA.eq_5 _ _ _ _ _ (by simp) (by simp) (by simp)]; cases evE C G (.glob x0) ρ <;> rfl
@[scoped simp] theorem a_bin {x0 x1 x2 es} : evA C G (.cons (.bin x0 x1 x2) es) ρ = bnd (evE C G (.bin x0 x1 x2) ρ) fun p => bnd (evA C G es p.2) fun q => some (.now p.1 :: q.1, q.2) := by rw [evA.eq_5 _ _ _ _ _ (by simp) (by simp) (by simp)]; cases evE C G (.bin x0 x1 x2) ρ <;> rfl
@[scoped simp] theorem a_neg {x0 es} : evA C G (.cons (.neg x0) es) ρ = bnd (evE C G (.neg x0) ρ) fun p => bnd (evA C G es p.2) fun q => some (.now p.1 :: q.1, q.2) := by rw [evA.eq_5 _ _ _ _ _ (by simp) (by simp) (by simp)]; cases evE C G (.neg x0) ρ <;> rfl
@[scoped simp] theorem a_cmp {x0 x1 x2 es} : evA C G (.cons (.cmp x0 x1 x2) es) ρ = bnd (evE C G (.cmp x0 x1 x2) ρ) fun p => bnd (evA C G es p.2) fun q => some (.now p.1 :: q.1, q.2) := by rw [evA.eq_5 _ _ _ _ _ (by simp) (by simp) (by simp)]; cases evE C G (.cmp x0 x1 x2) ρ <;> rfl
@[scoped simp] theorem a_chn {x0 x1 x2 x3 x4 es} : evA C G (.cons (.chn x0 x1 x2 x3 x4) es) ρ = bnd (evE C G (.chn x0 x1 x2 x3 x4) ρ) fun p => bnd (evA C G es p.2) fun q => some (.now p.1 :: q.1, q.2) := by rw [evA.eq_5 _ _ _ _ _ (by simp) (by simp) (by simp)]; cases evE C G (.chn x0 x1 x2 x3 x4) ρ <;> rfl
@[scoped simp] theorem a_and {x0 es} : evA C G (.cons (.and x0) es) ρ = bnd (evE C G (.and x0) ρ) fun p => bnd (evA C G es p.2) fun q => some (.now p.1 :: q.1, q.2) := by rw [evA.eq_5 _ _ _ _ _ (by simp) (by simp) (by simp)]; cases evE C G (.and x0) ρ <;> rfl
@[scoped simp] theorem a_or {x0 es} : evA C G (.cons (.or x0) es) ρ = bnd (evE C G (.or x0) ρ) fun p => bnd (evA C G es p.2) fun q => some (.now p.1 :: q.1, q.2) := by rw [evA.eq_5 _ _ _ _ _ (by simp) (by simp) (by simp)]; cases evE C G (.or x0) ρ <;> rfl
@[scoped simp] theorem a_not {x0 es} : evA C G (.cons (.not x0) es) ρ = bnd (evE C G (.not x0) ρ) fun p => bnd (evA C G es p.2) fun q => some (.now p.1 :: q.1, q.2) := by rw [evA.eq_5 _ _ _ _ _ (by simp) (by simp) (by simp)]; cases evE C G (.not x0) ρ <;> rfl
@[scoped simp] theorem a_ite {x0 x1 x2 es} : evA C G (.cons (.ite x0 x1 x2) es) ρ = bnd (evE C G (.ite x0 x1 x2) ρ) fun p => bnd (evA C G es p.2) fun q => some (.now p.1 :: q.1, q.2) := by rw [evA.eq_5 _ _ _ _ _ (by simp) (by simp) (by simp)]; cases evE C G (.ite x0 x1 x2) ρ <;> rfl
@[scoped simp] theorem a_tup {x0 es} : evA C G (.cons (.tup x0) es) ρ = bnd (evE C G (.tup x0) ρ) fun p => bnd (evA C G es p.2) fun q => some (.now p.1 :: q.1, q.2) := by rw [evA.eq_5 _ _ _ _ _ (by simp) (by simp) (by simp)]; cases evE C G (.tup x0) ρ <;> rfl
@[scoped simp] theorem a_lst {x0 es} : evA C G (.cons (.lst x0) es) ρ = bnd (evE C G (.lst x0) ρ) fun p => bnd (evA C G es p.2) fun q => some (.now p.1 :: q.1, q.2) := by rw [evA.eq_5 _ _ _ _ _ (by simp) (by simp) (by simp)]; cases evE C G (.lst x0) ρ <;> rfl
@[scoped simp] theorem a_idx {x0 x1 es} : evA C G (.cons (.idx x0 x1) es) ρ = bnd (evE C G (.idx x0 x1) ρ) fun p => bnd (evA C G es p.2) fun q => some (.now p.1 :: q.1, q.2) := by rw [evA.eq_5 _ _ _ _ _ (by simp) (by simp) (by simp)]; cases evE C G (.idx x0 x1) ρ <;> rfl
@[scoped simp] theorem a_slc {x0 x1 x2 es} : evA C G (.cons (.slc x0 x1 x2) es) ρ = bnd (evE C G (.slc x0 x1 x2) ρ) fun p => bnd (evA C G es p.2) fun q => some (.now p.1 :: q.1, q.2) := by rw [evA.eq_5 _ _ _ _ _ (by simp) (by simp) (by simp)]; cases evE C G (.slc x0 x1 x2) ρ <;> rfl
@[scoped simp] theorem a_rev {x0 es} : evA C G (.cons (.rev x0) es) ρ = bnd (evE C G (.rev x0) ρ) fun p => bnd (evA C G es p.2) fun q => some (.now p.1 :: q.1, q.2) := by rw [evA.eq_5 _ _ _ _ _ (by simp) (by simp) (by simp)]; cases evE C G (.rev x0) ρ <;> rfl
@[scoped simp] theorem a_comp {x0 x1 x2 x3 x4 es} : evA C G (.cons (.comp x0 x1 x2 x3 x4) es) ρ = bnd (evE C G (.comp x0 x1 x2 x3 x4) ρ) fun p => bnd (evA C G es p.2) fun q => some (.now p.1 :: q.1, q.2) := by rw [evA.eq_5 _ _ _ _ _ (by simp) (by simp) (by simp)]; cases evE C G (.comp x0 x1 x2 x3 x4) ρ <;> rfl
@[scoped simp] theorem a_call {x0 x1 es} : evA C G (.cons (.call x0 x1) es) ρ = bnd (evE C G (.call x0 x1) ρ) fun p => bnd (evA C G es p.2) fun q => some (.now p.1 :: q.1, q.2) := by rw [evA.eq_5 _ _ _ _ _ (by simp) (by simp) (by simp)]; cases evE C G (.call x0 x1) ρ <;> rfl
@[scoped simp] theorem a_blt {x0 x1 es} : evA C G (.cons (.blt x0 x1) es) ρ = bnd (evE C G (.blt x0 x1) ρ) fun p => bnd (evA C G es p.2) fun q => some (.now p.1 :: q.1, q.2) := by rw [evA.eq_5 _ _ _ _ _ (by simp) (by simp) (by simp)]; cases evE C G (.blt x0 x1) ρ <;> rfl
@[scoped simp] theorem a_blt2 {x0 x1 x2 es} : evA C G (.cons (.blt2 x0 x1 x2) es) ρ = bnd (evE C G (.blt2 x0 x1 x2) ρ) fun p => bnd (evA C G es p.2) fun q => some (.now p.1 :: q.1, q.2) := by rw [evA.eq_5 _ _ _ _ _ (by simp) (by simp) (by simp)]; cases evE C G (.blt2 x0 x1 x2) ρ <;> rfl
@[scoped simp] theorem a_lrng {x0 es} : evA C G (.cons (.lrng x0) es) ρ = bnd (evE C G (.lrng x0) ρ) fun p => bnd (evA C G es p.2) fun q => some (.now p.1 :: q.1, q.2) := by rw [evA.eq_5 _ _ _ _ _ (by simp) (by simp) (by simp)]; cases evE C G (.lrng x0) ρ <;> rfl
@[scoped simp] theorem a_trng {x0 es} : evA C G (.cons (.trng x0) es) ρ = bnd (evE C G (.trng x0) ρ) fun p => bnd (evA C G es p.2) fun q => some (.now p.1 :: q.1, q.2) := by rw [evA.eq_5 _ _ _ _ _ (by simp) (by simp) (by simp)]; cases evE C G (.trng x0) ρ <;> rfl
@[scoped simp] theorem a_isi {x0 x1 x2 es} : evA C G (.cons (.isi x0 x1 x2) es) ρ = bnd (evE C G (.isi x0 x1 x2) ρ) fun p => bnd (evA C G es p.2) fun q => some (.now p.1 :: q.1, q.2) := by rw [evA.eq_5 _ _ _ _ _ (by simp) (by simp) (by simp)]; cases evE C G (.isi x0 x1 x2) ρ <;> rfl
@[scoped simp] theorem a_mth {x0 x1 x2 es} : evA C G (.cons (.mth x0 x1 x2) es) ρ = bnd (evE C G (.mth x0 x1 x2) ρ) fun p => bnd (evA C G es p.2) fun q => some (.now p.1 :: q.1, q.2) := by rw [evA.eq_5 _ _ _ _ _ (by simp) (by simp) (by simp)]; cases evE C G (.mth x0 x1 x2) ρ <;> rfl
@[scoped simp] theorem a_pop {x0 x1 es} : evA C G (.cons (.pop x0 x1) es) ρ = bnd (evE C G (.pop x0 x1) ρ) fun p => bnd (evA C G es p.2) fun q => some (.now p.1 :: q.1, q.2) := by rw [evA.eq_5 _ _ _ _ _ (by simp) (by simp) (by simp)]; cases evE C G (.pop x0 x1) ρ <;> rfl
@[scoped simp] theorem a_var {x0 es} : evA C G (.cons (.var x0) es) ρ = bnd (evE C G (.var x0) ρ) fun p => bnd (evA C G es p.2) fun q => some (.now p.1 :: q.1, q.2) := by rw [evA.eq_5 _ _ _ _ _ (by simp) (by simp) (by simp)]; cases evE C G (.var x0) ρ <;> rfl
@[scoped simp] theorem a_pth {x0 x1 es} : evA C G (.cons (.pth x0 x1) es) ρ = bnd (evE C G (.pth x0 x1) ρ) fun p => bnd (evA C G es p.2) fun q => some (.now p.1 :: q.1, q.2) := by rw [evA.eq_5 _ _ _ _ _ (by simp) (by simp) (by simp)]; cases evE C G (.pth x0 x1) ρ <;> rfl
@[scoped simp] theorem a_tget {x0 x1 es} : evA C G (.cons (.tget x0 x1) es) ρ = bnd (evE C G (.tget x0 x1) ρ) fun p => bnd (evA C G es p.2) fun q => some (.now p.1 :: q.1, q.2) := by rw [evA.eq_5 _ _ _ _ _ (by simp) (by simp) (by simp)]; cases evE C G (.tget x0 x1) ρ <;> rfl
@[scoped simp] theorem a_tmem {x0 x1 es} : evA C G (.cons (.tmem x0 x1) es) ρ = bnd (evE C G (.tmem x0 x1) ρ) fun p => bnd (evA C G es p.2) fun q => some (.now p.1 :: q.1, q.2) := by rw [evA.eq_5 _ _ _ _ _ (by simp) (by simp) (by simp)]; cases evE C G (.tmem x0 x1) ρ <;> rfl
@[scoped simp] theorem a_dsp {x0 x1 x2 es} : evA C G (.cons (.dsp x0 x1 x2) es) ρ = bnd (evE C G (.dsp x0 x1 x2) ρ) fun p => bnd (evA C G es p.2) fun q => some (.now p.1 :: q.1, q.2) := by rw [evA.eq_5 _ _ _ _ _ (by simp) (by simp) (by simp)]; cases evE C G (.dsp x0 x1 x2) ρ <;> rfl
@[scoped simp] theorem a_dspd {x0 x1 x2 x3 es} : evA C G (.cons (.dspd x0 x1 x2 x3) es) ρ = bnd (evE C G (.dspd x0 x1 x2 x3) ρ) fun p => bnd (evA C G es p.2) fun q => some (.now p.1 :: q.1, q.2) := by rw [evA.eq_5 _ _ _ _ _ (by simp) (by simp) (by simp)]; cases evE C G (.dspd x0 x1 x2 x3) ρ <;> rfl
@[scoped simp] theorem a_chn3 {x0 x1 x2 x3 x4 x5 x6 es} : evA C G (.cons (.chn3 x0 x1 x2 x3 x4 x5 x6) es) ρ = bnd (evE C G (.chn3 x0 x1 x2 x3 x4 x5 x6) ρ) fun p => bnd (evA C G es p.2) fun q => some (.now p.1 :: q.1, q.2) := by rw [evA.eq_5 _ _ _ _ _ (by simp) (by simp) (by simp)]; cases evE C G (.chn3 x0 x1 x2 x3 x4 x5 x6) ρ <;> rfl
@[scoped simp] theorem a_setlen {x0 es} : evA C G (.cons (.setlen x0) es) ρ = bnd (evE C G (.setlen x0) ρ) fun p => bnd (evA C G es p.2) fun q => some (.now p.1 :: q.1, q.2) := by rw [evA.eq_5 _ _ _ _ _ (by simp) (by simp) (by simp)]; cases evE C G (.setlen x0) ρ <;> rfl
@[scoped simp] theorem a_lnd {x0 x1 es} : evA C G (.cons (.lnd x0 x1) es) ρ = bnd (evE C G (.lnd x0 x1) ρ) fun p => bnd (evA C G es p.2) fun q => some (.now p.1 :: q.1, q.2) := by rw [evA.eq_5 _ _ _ _ _ (by simp) (by simp) (by simp)]; cases evE C G (.lnd x0 x1) ρ <;> rfl
@[scoped simp] theorem a_lnd2 {x0 x1 x2 es} : evA C G (.cons (.lnd2 x0 x1 x2) es) ρ = bnd (evE C G (.lnd2 x0 x1 x2) ρ) fun p => bnd (evA C G es p.2) fun q => some (.now p.1 :: q.1, q.2) := by rw [evA.eq_5 _ _ _ _ _ (by simp) (by simp) (by simp)]; cases evE C G (.lnd2 x0 x1 x2) ρ <;> rfl
@[scoped simp] theorem a_ixs {x0 x1 es} : evA C G (.cons (.ixs x0 x1) es) ρ = bnd (evE C G (.ixs x0 x1) ρ) fun p => bnd (evA C G es p.2) fun q => some (.now p.1 :: q.1, q.2) := by rw [evA.eq_5 _ _ _ _ _ (by simp) (by simp) (by simp)]; cases evE C G (.ixs x0 x1) ρ <;> rfl
@[scoped simp] theorem a_isx {x0 x1 es} : evA C G (.cons (.isx x0 x1) es) ρ = bnd (evE C G (.isx x0 x1) ρ) fun p => bnd (evA C G es p.2) fun q => some (.now p.1 :: q.1, q.2) := by rw [evA.eq_5 _ _ _ _ _ (by simp) (by simp) (by simp)]; cases evE C G (.isx x0 x1) ρ <;> rfl
@[scoped simp] theorem a_xnon {x0 es} : evA C G (.cons (.xnon x0) es) ρ = bnd (evE C G (.xnon x0) ρ) fun p => bnd (evA C G es p.2) fun q => some (.now p.1 :: q.1, q.2) := by rw [evA.eq_5 _ _ _ _ _ (by simp) (by simp) (by simp)]; cases evE C G (.xnon x0) ρ <;> rfl
@[scoped simp] theorem i_seq' {e} : evI C G (.seq e) ρ = bnd (evE C G e ρ) fun p => bnd (seqOf p.1) fun l => some (l, p.2) := by simp only [evI]; rfl
@[scoped simp] theorem i_rng' {a} : evI C G (.rng a) ρ = bnd (evE C G a ρ) fun p => bnd (intOf p.1) fun n => if rngOk n then some (upTo 0 n.toNat, p.2) else none := by simp only [evI]; rfl
@[scoped simp] theorem i_rng2' {a b} : evI C G (.rng2 a b) ρ = bnd (evE C G a ρ) fun p => bnd (intOf p.1) fun m => bnd (evE C G b p.2) fun q => bnd (intOf q.1) fun n => if rngOk m && rngOk n && rngOk (n - m) then some (upTo m (n - m).toNat, q.2) else none := by simp only [evI]; rfl
@[scoped simp] theorem i_rng3' {a b c} : evI C G (.rng3 a b c) ρ = bnd (evE C G a ρ) fun p => bnd (intOf p.1) fun m => bnd (evE C G b p.2) fun q => bnd (intOf q.1) fun n => bnd (evE C G c q.2) fun r => bnd (intOf r.1) fun s =>
      if stepOk m n s (Builtin.Range.rangeSize m n s).toNat then some (stepTo m s (Builtin.Range.rangeSize m n s).toNat, r.2) else none := by simp only [evI]; rfl
def enumO : D → Option (List D)
  | .list l => some (enumD 0 l)
  | .tuple l => some (enumD 0 l)
  | _ => none
def zipO : D → D → Option (List D)
  | .list x, .list y => some (zipD x y)
  | .tuple x, .tuple y => some (zipD x y)
  | _, _ => none
@[scoped simp] theorem i_enum' {e} : evI C G (.enum e) ρ = bnd (evE C G e ρ) fun p => bnd (enumO p.1) fun l => some (l, p.2) := by
  simp only [evI, bnd]
  congr; funext p
  cases p.1 <;> rfl
@[scoped simp] theorem i_zip' {a b} : evI C G (.zip a b) ρ = bnd (evE C G a ρ) fun p => bnd (evE C G b p.2) fun q => bnd (zipO p.1 q.1) fun l => some (l, q.2) := by
  simp only [evI, bnd]
  congr; funext p; congr; funext q
  cases p.1 <;> cases q.1 <;> rfl
@[scoped simp] theorem enumO_l {l} : enumO (.list l) = some (enumD 0 l) := id rfl
@[scoped simp] theorem enumO_t {l} : enumO (.tuple l) = some (enumD 0 l) := id rfl
@[scoped simp] theorem zipO_l {x y} : zipO (.list x) (.list y) = some (zipD x y) := id rfl
@[scoped simp] theorem zipO_t {x y} : zipO (.tuple x) (.tuple y) = some (zipD x y) := id rfl
/-! statements -/
def tupO : D → Option (List D)
  | .tuple l => some l
  | .list l => some l
  | _ => none
@[scoped simp] theorem tupO_t {x} : tupO (.tuple x) = some x := id rfl
@[scoped simp] theorem tupO_l {x} : tupO (.list x) = some x := id rfl
def thO : List D → Option (D × D × D)
  | [x, y, z] => some (x, y, z)
  | _ => none
@[scoped simp] theorem thO_3 {x y z} : thO [x, y, z] = some (x, y, z) := id rfl
def valI : R → Option Int
  | .val (.int a) => some a
  | _ => none
@[scoped simp] theorem valI_i {i} : valI (.val (.int i)) = some i := id rfl
@[scoped simp] theorem st_asg {k i e} : evS C G O (.asg k i e) ρ = bnd (evE C G e ρ) fun p => bnd (putR p.2 i (mkR k p.1)) fun ρ' => some (.nx ρ') := by simp only [evS]; rfl
@[scoped simp] theorem st_asgT {ts e} : evS C G O (.asgT ts e) ρ = bnd (evE C G e ρ) fun p => bnd (tupO p.1) fun l => bnd (bindTs ts l p.2) fun ρ' => some (.nx ρ') := by
  simp only [evS, bnd]
  congr; funext p
  cases p.1 <;> rfl
@[scoped simp] theorem st_par {i j a b ki kj} : evS C G O (.par i j a b ki kj) ρ = bnd (evE C G a ρ) fun p => bnd (evE C G b p.2) fun q => bnd (putR q.2 i (mkR ki p.1)) fun ρ1 => bnd (putR ρ1 j (mkR kj q.1)) fun ρ2 => some (.nx ρ2) := by simp only [evS]; rfl
@[scoped simp] theorem st_aug {i e} : evS C G O (.aug i e) ρ = bnd (valI (slot ρ i)) fun a => bnd (evE C G e ρ) fun p => bnd (intOf p.1) fun b => bnd (putR p.2 i (.val (.int (a + b)))) fun ρ' => some (.nx ρ') := by
  simp only [evS, bnd]
  cases slot ρ i with
  | val d => cases d <;> rfl
  | _ => rfl
@[scoped simp] theorem st_expr {e} : evS C G O (.expr e) ρ = bnd (evE C G e ρ) fun p => some (.nx p.2) := by simp only [evS]; rfl
@[scoped simp] theorem st_mut0 {i m as} : evS C G O (.mut i [] m as) ρ = if isLst (slot ρ i) = true then bnd (evL C G as ρ) fun q => bnd (chgR q.2 (mutD O m as q.1) [] (slot q.2 i)) fun r => some (.nx (q.2.set i r)) else none := by simp only [evS]; rfl
@[scoped simp] theorem st_mut1 {i a p m as} : evS C G O (.mut i (a :: p) m as) ρ = if isLst (slot ρ i) = true then bnd (evL C G as (ρ.set i .un)) fun q => bnd (chgR ρ (mutD O m as q.1) (a :: p) (slot ρ i)) fun r => some (.nx (q.2.set i r)) else none := by simp only [evS]; rfl
@[scoped simp] theorem st_seti0 {i x e} : evS C G O (.seti i [] x e) ρ = bnd (evE C G e ρ) fun q => if isLst (slot q.2 i) = true then bnd (evE C G x q.2) fun y => bnd (intOf y.1) fun n => bnd (chgR y.2 (setD O e n q.1) [] (slot y.2 i)) fun r => some (.nx (y.2.set i r)) else none := by simp only [evS]; rfl
@[scoped simp] theorem st_seti1 {i a p x e} : evS C G O (.seti i (a :: p) x e) ρ = bnd (evE C G e ρ) fun q => bnd (exAt x) fun y => bnd (atI? q.2 y) fun n => bnd (chgR q.2 (setD O e n q.1) (a :: p) (slot q.2 i)) fun r => some (.nx (q.2.set i r)) := by simp only [evS]; rfl
@[scoped simp] theorem st_augi {i x e} : evS C G O (.augi i x e) ρ = if isLst (slot ρ i) = true then bnd (evE C G x ρ) fun y => bnd (intOf y.1) fun n => bnd (viewR (slot y.2 i)) fun v => if v.1 = 1 ∧ 0 ≤ n ∧ isLst (slot y.2 i) = true then bnd (idxD v.2 (.int n)) fun d0 => bnd (intOf d0) fun m => bnd (evE C G e y.2) fun q => bnd (intOf q.1) fun t =>
      bnd (chgR q.2 (fun k l => if k = 0 then (ixAt l.length n).bind fun j => some (l.set j (.int (m + t))) else none) [] (slot q.2 i)) fun r => some (.nx (q.2.set i r)) else none else none := by simp only [evS]; rfl
@[scoped simp] theorem st_rse {c} : evS C G O (.rse c) ρ = none := by simp only [evS]
@[scoped simp] theorem st_stuck : evS C G O .stuck ρ = none := by simp only [evS]
@[scoped simp] theorem st_trx {b c i j} : evS C G O (.trx b c i j) ρ = tryO (evSs C G O b ρ) (bnd (rsSs C G O b ρ) fun p => if subC p.1 c = true then bnd (excR p.2 i j p.1) fun ρ' => some (.nx ρ') else none) := by
  simp only [evS]
  cases evSs C G O b ρ <;> rfl
@[scoped simp] theorem rsC_eq {f as} : rsC C G f as ρ = bnd (evA C G as ρ) fun p => if ioOk p.1 = true then bnd (arR p.2 p.1) fun rs => bnd (rclO (C (f + rsK) rs)) fun c => some (c, putBack p.2 p.1 (rs.map fun _ => .un) (dropI p.1 p.2)) else none := id rfl
@[scoped simp] theorem rclO_s {c l} : rclO (some (.str c, l)) = some c := id rfl
@[scoped simp] theorem rs_rse {c} : rsS C G O (.rse c) ρ = some (c, ρ) := by simp only [rsS]
@[scoped simp] theorem rs_asg {k i f as} : rsS C G O (.asg k i (.call f as)) ρ = rsC C G f as ρ := by simp only [rsS]
@[scoped simp] theorem rs_asgT {ts f as} : rsS C G O (.asgT ts (.call f as)) ρ = rsC C G f as ρ := by simp only [rsS]
@[scoped simp] theorem rs_expr {f as} : rsS C G O (.expr (.call f as)) ρ = rsC C G f as ρ := by simp only [rsS]
@[scoped simp] theorem rs_ret {f as} : rsS C G O (.ret (.call f as)) ρ = rsC C G f as ρ := by simp only [rsS]
@[scoped simp] theorem rs_retc {e t f as cs ow} : rsS C G O (.ret (.comp e t (.seq (.call f as)) cs ow)) ρ = rsC C G f as ρ := by simp only [rsS]
@[scoped simp] theorem rs_ite {c a b ks} : rsS C G O (.ite c a b ks) ρ = bnd (evE C G c ρ) fun p => bnd (boolOf p.1) fun z => cnd z (rsSs C G O a p.2) (rsSs C G O b p.2) := by simp only [rsS]; rfl
@[scoped simp] theorem rs_nil : rsSs C G O .nil ρ = none := by simp only [rsSs]
@[scoped simp] theorem rs_cons {s ss} : rsSs C G O (.cons s ss) ρ = rsO (evS C G O s ρ) (rsSs C G O ss) (rsS C G O s ρ) := by
  simp only [rsSs]
  cases evS C G O s ρ with
  | none => rfl
  | some r => cases r <;> rfl
@[scoped simp] theorem st_ite {c a b ks} : evS C G O (.ite c a b ks) ρ = bnd (evE C G c ρ) fun p => bnd (boolOf p.1) fun z => cnd z (bnd (evSs C G O a p.2) fun r => some (killR ks r)) (bnd (evSs C G O b p.2) fun r => some (killR ks r)) := by simp only [evS]; rfl
@[scoped simp] theorem st_for {t it b ks} : evS C G O (.for_ t it b ks) ρ = bnd (evI C G it ρ) fun p => forB C G O t b ks p.1 (kills p.2 ks) := by simp only [evS]; rfl
@[scoped simp] theorem st_mvl {x es k b ks} : evS C G O (.mvl x es k b ks) ρ = bnd (evL C G es ρ) fun p => mvB C G O x k b ks p.1 (kills p.2 ks) := by simp only [evS]; rfl
@[scoped simp] theorem st_whl {c b ks} : evS C G O (.whl c b ks) ρ = whlB C G O c b ks whlMax (kills ρ ks) := by simp only [evS]; rfl
@[scoped simp] theorem st_ret {e} : evS C G O (.ret e) ρ = bnd (evE C G e ρ) fun p => some (.rt p.1 p.2) := by simp only [evS]; rfl
@[scoped simp] theorem st_retN : evS C G O .retN ρ = some (.rt .none ρ) := by simp only [evS]
@[scoped simp] theorem st_pass : evS C G O .pass ρ = some (.nx ρ) := by simp only [evS]
@[scoped simp] theorem st_brk : evS C G O .brk ρ = some (.bk ρ) := by simp only [evS]
@[scoped simp] theorem st_cont : evS C G O .cont ρ = some (.ct ρ) := by simp only [evS]
@[scoped simp] theorem st_par3 {i j l es} : evS C G O (.par3 i j l es) ρ = bnd (evL C G es ρ) fun p => bnd (thO p.1) fun u => bnd (putR p.2 i (.val u.1)) fun ρ1 => bnd (putR ρ1 j (.val u.2.1)) fun ρ2 => bnd (putR ρ2 l (.val u.2.2)) fun ρ3 => some (.nx ρ3) := by
  simp only [evS, bnd]
  congr; funext p
  rcases p.1 with _ | ⟨x, _ | ⟨y, _ | ⟨z, _ | ⟨u, w⟩⟩⟩⟩ <;> rfl
@[scoped simp] theorem ss_nil' : evSs C G O .nil ρ = some (.nx ρ) := by simp only [evSs]
def contR (f : Env → Option Res) : Res → Option Res
  | .nx ρ' => f ρ'
  | .rt d ρ' => some (.rt d ρ')
  | .bk ρ' => some (.bk ρ')
  | .ct ρ' => some (.ct ρ')
@[scoped simp] theorem ss_one' {s} : evSs C G O (.cons s .nil) ρ = evS C G O s ρ := by
  simp only [evSs]
  cases h : evS C G O s ρ with
  | none => rfl
  | some r => cases r <;> rfl
@[scoped simp] theorem ss_cons' {s s2 ss} : evSs C G O (.cons s (.cons s2 ss)) ρ = bnd (evS C G O s ρ) (contR (evSs C G O (.cons s2 ss))) := by
  rw [evSs]
  unfold bnd
  cases h : evS C G O s ρ with
  | none => rfl
  | some r => cases r <;> rfl
@[scoped simp] theorem contR_nx {f} : contR f (.nx ρ) = f ρ := id rfl
@[scoped simp] theorem contR_rt {f d} : contR f (.rt d ρ) = some (.rt d ρ) := id rfl
@[scoped simp] theorem contR_bk {f} : contR f (.bk ρ) = some (.bk ρ) := id rfl
@[scoped simp] theorem contR_ct {f} : contR f (.ct ρ) = some (.ct ρ) := id rfl
@[scoped simp] theorem killR_nx {ks} : killR ks (.nx ρ) = .nx (kills ρ ks) := id rfl
@[scoped simp] theorem killR_rt {ks d} : killR ks (.rt d ρ) = .rt d ρ := id rfl
@[scoped simp] theorem killR_bk {ks} : killR ks (.bk ρ) = .bk (kills ρ ks) := id rfl
@[scoped simp] theorem killR_ct {ks} : killR ks (.ct ρ) = .ct (kills ρ ks) := id rfl
@[scoped simp] theorem endOf_rt {n d} : endOf n (.rt d ρ) = some (d, outs n ρ) := id rfl
@[scoped simp] theorem endOf_nx {n} : endOf n (.nx ρ) = some (.none, outs n ρ) := id rfl
end
end Ev
end
end BW

/-! BwW2: operations on data by equations; loops by rules. -/
namespace BW
noncomputable section
open PySem PySem.Spec PyProof.Rows L2
/-- small enough for the operators -/
def sml (i : Int) : Prop := -18446744073709551616 < i ∧ i < 18446744073709551616
theorem sml_of {i : Int} (h0 : -1000000000000000000 ≤ i) (h1 : i ≤ 1000000000000000000) : sml i := ⟨by omega, by omega⟩
theorem ixN_nat' {m k : Nat} (h : k < m) : ixN m (k : Int) = some k := by
  unfold ixN
  rw [if_pos (by omega), if_pos (by omega)]
  rfl
theorem ixN_int {m : Nat} {k : Int} (h0 : 0 ≤ k) (h : k < m) : ixN m k = some k.toNat := by
  have := ixN_nat' (m := m) (k := k.toNat) (by omega)
  rwa [Int.toNat_of_nonneg h0] at this
theorem ixN_neg {m : Nat} {k : Int} (h0 : k < 0) (h : 0 ≤ k + m) : ixN m k = some (k + m).toNat := by
  unfold ixN
  rw [if_neg (by omega)]
  split <;> first | rfl | omega | (congr 1; omega)
/-- an item by its number -/
def ixD (l : List D) (k : Int) : Option D := bnd (ixN l.length k) fun j => l[j]?
theorem ixD_at {l : List D} {k : Nat} (h : k < l.length) : ixD l (k : Int) = l[k]? := by
  unfold ixD
  rw [ixN_nat' h]
  rfl
theorem ixD_int {l : List D} {k : Int} (h0 : 0 ≤ k) (h : k < l.length) : ixD l k = l[k.toNat]? := by
  unfold ixD
  rw [ixN_int h0 h]
  rfl
/-- of what depth a thing is at most -/
def Shp (d : D) (k : Nat) : Prop := d.canLay0 = true ∧ d.depth ≤ k
theorem Shp.mono {d : D} {k k' : Nat} (h : Shp d k) (hk : k ≤ k') : Shp d k' := ⟨h.1, Nat.le_trans h.2 hk⟩
theorem Shp.shaped {d : D} {k : Nat} (h : Shp d k) (hk : k ≤ 64 := by decide) : SeqAt.shaped d = true := by
  unfold SeqAt.shaped
  rw [h.1, decide_eq_true (Nat.le_trans h.2 hk)]
  rfl
theorem shp_n {k : Nat} : Shp .none k := ⟨by simp only [PyData.canLay0], by simp only [PyData.depth]; omega⟩
theorem shp_i {i : Int} {k : Nat} : Shp (.int i) k := ⟨by simp only [PyData.canLay0], by simp only [PyData.depth]; omega⟩
theorem shp_b {i : Bool} {k : Nat} : Shp (.bool i) k := ⟨by simp only [PyData.canLay0], by simp only [PyData.depth]; omega⟩
theorem shp_all {l : List D} {k : Nat} (h : ∀ d ∈ l, Shp d k) : PyData.canLayAll0 l = true ∧ PyData.depthAll l ≤ k := by
  induction l with
  | nil => exact ⟨by simp only [PyData.canLayAll0], by simp only [PyData.depthAll]; omega⟩
  | cons d l ih =>
    have h1 := h d (List.mem_cons_self ..)
    have h2 := ih fun x hx => h x (List.mem_cons_of_mem _ hx)
    exact ⟨by simp only [PyData.canLayAll0, h1.1, h2.1]; rfl, by simp only [PyData.depthAll]; have := h1.2; have := h2.2; omega⟩
theorem shp_l {l : List D} {k : Nat} (h : ∀ d ∈ l, Shp d k) : Shp (.list l) (k + 1) := by
  have := shp_all h
  exact ⟨by simp only [PyData.canLay0, this.1], by simp only [PyData.depth]; omega⟩
theorem shp_t {l : List D} {k : Nat} (h : ∀ d ∈ l, Shp d k) : Shp (.tuple l) (k + 1) := by
  have := shp_all h
  exact ⟨by simp only [PyData.canLay0, this.1], by simp only [PyData.depth]; omega⟩
mutual
theorem eqv_refl : ∀ {d : D}, d.canLay0 = true → PyData.eqv d d = true
  | .none, _ => by simp only [PyData.eqv]
  | .bool b, _ => by simp [PyData.eqv]
  | .int b, _ => by simp [PyData.eqv]
  | .str b, _ => by simp [PyData.eqv]
  | .list l, h => by simp only [PyData.canLay0] at h; simp only [PyData.eqv]; exact eqvAll_refl h
  | .tuple l, h => by simp only [PyData.canLay0] at h; simp only [PyData.eqv]; exact eqvAll_refl h
  | .dict _, h => by simp only [PyData.canLay0] at h; exact (Bool.false_ne_true h).elim
theorem eqvAll_refl : ∀ {d : List D}, PyData.canLayAll0 d = true → PyData.eqvAll d d = true
  | [], _ => by simp only [PyData.eqvAll]
  | x :: l, h => by
    simp only [PyData.canLayAll0, Bool.and_eq_true] at h
    simp only [PyData.eqvAll, eqv_refl h.1, eqvAll_refl h.2]
    rfl
end
namespace Ev
@[scoped simp] theorem ixN_0 {m : Nat} (h : 0 < m) : ixN m 0 = some 0 := ixN_nat' (k := 0) h
@[scoped simp] theorem ixN_1 {m : Nat} (h : 1 < m) : ixN m 1 = some 1 := ixN_nat' (k := 1) h
@[scoped simp] theorem ixN_lit {m k : Nat} (h : k < m) : ixN m (no_index (OfNat.ofNat k : Int)) = some k := ixN_nat' (k := k) h
@[scoped simp] theorem ixN_m1 {m : Nat} (h : 0 < m) : ixN m (-1) = some (m - 1) := by
  rw [ixN_neg (by omega) (by omega)]
  congr 1
  omega
@[scoped simp] theorem ixN_m2 {m : Nat} (h : 1 < m) : ixN m (-2) = some (m - 2) := by
  rw [ixN_neg (by omega) (by omega)]
  congr 1
  omega
section
variable {C : Calls} {G : Nat → D} {O : Nat → Nat} {ρ ρ0 : Env}
@[scoped simp] theorem vw_now {d} : vw ρ (.now d) = some (0, d) := id rfl
@[scoped simp] theorem vw_late {i} : vw ρ (.late i) = viewR (slot ρ i) := id rfl
@[scoped simp] theorem arR_nil : arR ρ [] = some [] := id rfl
@[scoped simp] theorem arR_now {d r} : arR ρ (.now d :: r) = bnd (arR ρ r) fun l => some (.val d :: l) := by rw [arR]; cases arR ρ r <;> rfl
@[scoped simp] theorem arR_io {i r} : arR ρ (.io i :: r) = bnd (ioR ρ i) fun x => bnd (arR ρ r) fun l => some (x :: l) := by
  rw [arR]
  cases ioR ρ i
  · rfl
  · cases arR ρ r <;> rfl
@[scoped simp] theorem arR_scr {i r} : arR ρ (.scr i :: r) = bnd (scrOf ρ i) fun x => bnd (arR ρ r) fun l => some (.scr x :: l) := by
  rw [arR]
  cases scrOf ρ i
  · rfl
  · cases arR ρ r <;> rfl
@[scoped simp] theorem arR_exc {i r} : arR ρ (.exc i :: r) = bnd (excOf ρ i) fun x => bnd (arR ρ r) fun l => some (.exc x :: l) := by
  rw [arR]
  cases excOf ρ i
  · rfl
  · cases arR ρ r <;> rfl
@[scoped simp] theorem ioOk_exc {i r} : ioOk (.exc i :: r) = ioOk r := id rfl
@[scoped simp] theorem ioIn_exc {i j r} : ioIn i (.exc j :: r) = ioIn i r := id rfl
@[scoped simp] theorem dropI_exc {i r} : dropI (.exc i :: r) ρ = dropI r ρ := id rfl
@[scoped simp] theorem pb_exc {i as r rs} : putBack ρ0 (.exc i :: as) (r :: rs) ρ = putBack ρ0 as rs ρ := id rfl
@[scoped simp] theorem outR_exc {l} : outR (.exc l) = .un := id rfl
def excJ (ρ : Env) (i j : Nat) (c : Str) : R → R → Option Env
  | .un, .un => if i < ρ.length ∧ j < ρ.length ∧ i ≠ j then some (ρ.set j (.exc c)) else none
  | .un, .val _ => if i < ρ.length ∧ j < ρ.length ∧ i ≠ j then some (ρ.set j (.exc c)) else none
  | _, _ => none
@[scoped simp] theorem excR_eq {i j c} : excR ρ i j c = excJ ρ i j c (slot ρ i) (slot ρ j) := by
  unfold excR excJ
  cases slot ρ i <;> cases slot ρ j <;> rfl
@[scoped simp] theorem excJ_u {i j c} : excJ ρ i j c .un .un = if i < ρ.length ∧ j < ρ.length ∧ i ≠ j then some (ρ.set j (.exc c)) else none := id rfl
@[scoped simp] theorem excJ_v {i j c d} : excJ ρ i j c .un (.val d) = if i < ρ.length ∧ j < ρ.length ∧ i ≠ j then some (ρ.set j (.exc c)) else none := id rfl
def ioS : R → Option R
  | .own k d => some (.io k d)
  | .io k d => some (.io k d)
  | _ => none
def scS : R → Option (List Int)
  | .scr l => some l
  | _ => none
@[scoped simp] theorem ioR_eq {i} : ioR ρ i = ioS (slot ρ i) := by unfold ioR; cases slot ρ i <;> rfl
@[scoped simp] theorem ioS_own {k d} : ioS (.own k d) = some (.io k d) := id rfl
@[scoped simp] theorem ioS_io {k d} : ioS (.io k d) = some (.io k d) := id rfl
@[scoped simp] theorem scrOf_eq {i} : scrOf ρ i = scS (slot ρ i) := by unfold scrOf; cases slot ρ i <;> rfl
@[scoped simp] theorem scS_scr {l} : scS (.scr l) = some l := id rfl
@[scoped simp] theorem ioOk_nil : ioOk [] = true := id rfl
@[scoped simp] theorem ioOk_io {i r} : ioOk (.io i :: r) = (!ioIn i r && ioOk r) := id rfl
@[scoped simp] theorem ioOk_now {d r} : ioOk (.now d :: r) = ioOk r := id rfl
@[scoped simp] theorem ioOk_scr {i r} : ioOk (.scr i :: r) = ioOk r := id rfl
@[scoped simp] theorem ioIn_nil {i} : ioIn i [] = false := id rfl
@[scoped simp] theorem ioIn_io {i j r} : ioIn i (.io j :: r) = (i == j || ioIn i r) := id rfl
@[scoped simp] theorem ioIn_now {i d r} : ioIn i (.now d :: r) = ioIn i r := id rfl
@[scoped simp] theorem ioIn_scr {i j r} : ioIn i (.scr j :: r) = ioIn i r := id rfl
@[scoped simp] theorem dropI_nil : dropI [] ρ = ρ := id rfl
@[scoped simp] theorem dropI_io {i r} : dropI (.io i :: r) ρ = dropI r (ρ.set i .un) := id rfl
@[scoped simp] theorem dropI_now {d r} : dropI (.now d :: r) ρ = dropI r ρ := id rfl
@[scoped simp] theorem dropI_scr {i r} : dropI (.scr i :: r) ρ = dropI r ρ := id rfl
@[scoped simp] theorem pb_nil {rs} : putBack ρ0 [] rs ρ = ρ := id rfl
@[scoped simp] theorem pb_io {i as r rs} : putBack ρ0 (.io i :: as) (r :: rs) ρ = putBack ρ0 as rs (ρ.set i (backR (slot ρ0 i) r)) := id rfl
@[scoped simp] theorem pb_now {d as r rs} : putBack ρ0 (.now d :: as) (r :: rs) ρ = putBack ρ0 as rs ρ := id rfl
@[scoped simp] theorem pb_scr {i as r rs} : putBack ρ0 (.scr i :: as) (r :: rs) ρ = putBack ρ0 as rs ρ := id rfl
@[scoped simp] theorem backR_own {k k' d d'} : backR (.own k d) (.io k' d') = .own k' d' := id rfl
@[scoped simp] theorem backR_io {k k' d d'} : backR (.io k d) (.io k' d') = .io k' d' := id rfl
@[scoped simp] theorem outR_io {k d} : outR (.io k d) = .io k d := id rfl
@[scoped simp] theorem outR_val {d} : outR (.val d) = .un := id rfl
@[scoped simp] theorem outR_own {k d} : outR (.own k d) = .un := id rfl
@[scoped simp] theorem outR_scr {l} : outR (.scr l) = .un := id rfl
@[scoped simp] theorem outR_un : outR .un = .un := id rfl
@[scoped simp] theorem outs_z : outs 0 ρ = [] := id rfl
@[scoped simp] theorem outs_s {a n} : outs (n + 1) (a :: ρ) = outR a :: outs n ρ := by
  unfold outs
  rw [List.range_succ_eq_map, List.map_cons, List.map_map]
  rfl
@[scoped simp] theorem resto_nil {ρ1} : resto ρ1 [] ρ = ρ := id rfl
def rsR : R → R
  | .val d => .val d
  | _ => .un
@[scoped simp] theorem resto_cons {ρ1 i is} : resto ρ1 (i :: is) ρ = resto ρ1 is (ρ.set i (rsR (slot ρ1 i))) := by
  rw [resto]
  cases h : slot ρ1 i <;> rfl
@[scoped simp] theorem rsR_val {d} : rsR (.val d) = .val d := id rfl
@[scoped simp] theorem rsR_un : rsR .un = .un := id rfl
@[scoped simp] theorem rsR_own {k d} : rsR (.own k d) = .un := id rfl
@[scoped simp] theorem rsR_io {k d} : rsR (.io k d) = .un := id rfl
@[scoped simp] theorem rsR_scr {l} : rsR (.scr l) = .un := id rfl
@[scoped simp] theorem rsR_exc {l} : rsR (.exc l) = .un := id rfl
@[scoped simp] theorem boolOf_b {b} : boolOf (.bool b) = some b := id rfl
@[scoped simp] theorem intOf_i {b} : intOf (.int b) = some b := id rfl
@[scoped simp] theorem numOf_i {b} : numOf (.int b) = some b := id rfl
@[scoped simp] theorem numOf_b {b} : numOf (.bool b) = some (b2i b) := id rfl
@[scoped simp] theorem b2i_t : b2i true = 1 := id rfl
@[scoped simp] theorem b2i_f : b2i false = 0 := id rfl
@[scoped simp] theorem bin_addb {b j} : binD .add (.bool b) (.int j) = some (.int (b2i b + j)) := id rfl
@[scoped simp] theorem bin_subi {i b} : binD .sub (.int i) (.bool b) = some (.int (i - b2i b)) := id rfl
@[scoped simp] theorem bin_subb {b j} : binD .sub (.bool b) (.int j) = some (.int (b2i b - j)) := id rfl
@[scoped simp] theorem seqOf_l {l} : seqOf (.list l) = some l := id rfl
@[scoped simp] theorem seqOf_t {l} : seqOf (.tuple l) = some l := id rfl
@[scoped simp] theorem optI_n : optI none = some none := id rfl
@[scoped simp] theorem optI_s {i} : optI (some (.int i)) = some (some i) := id rfl
@[scoped simp] theorem head_n : head? [] = none := id rfl
@[scoped simp] theorem head_c {d l} : head? (d :: l) = some d := id rfl
@[scoped simp] theorem isLst_own {k l} : isLst (.own k (.list l)) = true := id rfl
@[scoped simp] theorem isLst_io {k l} : isLst (.io k (.list l)) = true := id rfl
/-! operators -/
@[scoped simp] theorem bin_addi {i j} : binD .add (.int i) (.int j) = some (.int (i + j)) := id rfl
@[scoped simp] theorem bin_adds {i j} : binD .add (.str i) (.str j) = if fits (i.length + j.length) then some (.str (i ++ j)) else none := id rfl
@[scoped simp] theorem bin_addl {i j} : binD .add (.list i) (.list j) = if fits (i.length + j.length) then some (.list (i ++ j)) else none := id rfl
@[scoped simp] theorem bin_addt {i j} : binD .add (.tuple i) (.tuple j) = if fits (i.length + j.length) then some (.tuple (i ++ j)) else none := id rfl
@[scoped simp] theorem bin_sub {i j} : binD .sub (.int i) (.int j) = some (.int (i - j)) := id rfl
@[scoped simp] theorem bin_mul_l {i j : Int} (h : sml i) : binD .mul (.int i) (.int j) = some (.int (i * j)) := if_pos (.inl h)
@[scoped simp] theorem bin_mul_r {i j : Int} (h : sml j) : binD .mul (.int i) (.int j) = some (.int (i * j)) := if_pos (.inr h)
@[scoped simp] theorem sml_nat {n : Nat} (h : n < 18446744073709551616) : sml (no_index (OfNat.ofNat n : Int)) := by
  show sml ((n : Nat) : Int)
  exact ⟨by omega, by omega⟩
@[scoped simp] theorem sml_0 : sml 0 := ⟨by omega, by omega⟩
@[scoped simp] theorem sml_1 : sml 1 := ⟨by omega, by omega⟩
@[scoped simp] theorem sml_neg {i : Int} : sml (-i) = sml i := by
  unfold sml
  refine propext ⟨fun h => ⟨?_, ?_⟩, fun h => ⟨?_, ?_⟩⟩ <;> omega
@[scoped simp] theorem bin_mul2 {a : D} : binD .mul (.list [a]) (.int 2) = some (.list [a, a]) := id rfl
@[scoped simp] theorem bin_fdiv {i j : Int} (h0 : 0 < j) (h1 : j < 1073741824) : binD .fdiv (.int i) (.int j) = some (.int (i / j)) := if_pos ⟨h0, h1⟩
@[scoped simp] theorem bin_mod {i j : Int} (h : 0 < j) : binD .mod (.int i) (.int j) = some (.int (i % j)) := if_pos h
@[scoped simp] theorem bin_pow {i j : Int} : binD .pow (.int i) (.int j) = if 0 ≤ j ∧ j ≤ 1000000 ∧ i.natAbs < 18446744073709551616 then some (.int (i ^ j.toNat)) else none := id rfl
@[scoped simp] theorem bin_shl {i j : Int} : binD .shl (.int i) (.int j) = if 0 ≤ j ∧ j ≤ 1000000 ∧ i.natAbs < 18446744073709551616 then some (.int (i * 2 ^ j.toNat)) else none := id rfl
@[scoped simp] theorem bin_shr {i j : Int} : binD .shr (.int i) (.int j) = if 0 ≤ j then some (.int (i / 2 ^ j.toNat)) else none := id rfl
@[scoped simp] theorem bin_and {i j : Int} : binD .band (.int i) (.int j) = some (.int (Builtin.bitAnd i j)) := id rfl
@[scoped simp] theorem bin_xor {i j : Int} : binD .bxor (.int i) (.int j) = some (.int (Builtin.bitXor i j)) := id rfl
@[scoped simp] theorem cmp_eq {a b} : cmpD .eq a b = eqD a b := id rfl
@[scoped simp] theorem cmp_ne {a b} : cmpD .ne a b = bnd (eqD a b) fun z => some (!z) := by show (eqD a b).map (!·) = _; cases eqD a b <;> rfl
@[scoped simp] theorem cmp_lt {i j : Int} : cmpD .lt (.int i) (.int j) = some (decide (i < j)) := id rfl
@[scoped simp] theorem cmp_le {i j : Int} : cmpD .le (.int i) (.int j) = some (decide (i ≤ j)) := id rfl
@[scoped simp] theorem cmp_gt {i j : Int} : cmpD .gt (.int i) (.int j) = some (decide (j < i)) := id rfl
@[scoped simp] theorem cmp_gtP {a b c d : Int} : cmpD .gt (.tuple [.int a, .int b]) (.tuple [.int c, .int d]) = some (decide (c < a ∨ (c = a ∧ d < b))) := id rfl
@[scoped simp] theorem cmp_ge {i j : Int} : cmpD .ge (.int i) (.int j) = some (decide (j ≤ i)) := id rfl
@[scoped simp] theorem cmp_isN {a b} : cmpD .isN a b = some (isNon a) := id rfl
@[scoped simp] theorem cmp_notN {a b} : cmpD .notN a b = some (!isNon a) := id rfl
@[scoped simp] theorem cmp_isB {a b c} : cmpD (.isB c) a b = isBc c a := id rfl
@[scoped simp] theorem cmp_notB {a b c} : cmpD (.notB c) a b = bnd (isBc c a) fun z => some (!z) := by show (isBc c a).map (!·) = _; cases isBc c a <;> rfl
@[scoped simp] theorem cmp_mem {a b} : cmpD .mem a b = memD a b := id rfl
@[scoped simp] theorem cmp_nmem {a b} : cmpD .nmem a b = bnd (memD a b) fun z => some (!z) := by show (memD a b).map (!·) = _; cases memD a b <;> rfl
@[scoped simp] theorem isNon_n : isNon .none = true := id rfl
@[scoped simp] theorem isNon_b {b} : isNon (.bool b) = false := id rfl
@[scoped simp] theorem isNon_i {b} : isNon (.int b) = false := id rfl
@[scoped simp] theorem isNon_s {b} : isNon (.str b) = false := id rfl
@[scoped simp] theorem isNon_l {b} : isNon (.list b) = false := id rfl
@[scoped simp] theorem isNon_t {b} : isNon (.tuple b) = false := id rfl
@[scoped simp] theorem isBc_b {c b} : isBc c (.bool b) = some (decide (b = c)) := id rfl
@[scoped simp] theorem eq_ii {i j : Int} : eqD (.int i) (.int j) = some (decide (i = j)) := id rfl
@[scoped simp] theorem eq_bb {i j : Bool} : eqD (.bool i) (.bool j) = some (decide (i = j)) := id rfl
@[scoped simp] theorem eq_ss {i j : Str} : eqD (.str i) (.str j) = some (decide (i = j)) := id rfl
@[scoped simp] theorem eq_nn : eqD .none .none = some true := id rfl
@[scoped simp] theorem eq_ni {i} : eqD .none (.int i) = some false := id rfl
@[scoped simp] theorem eq_in {i} : eqD (.int i) .none = some false := id rfl
@[scoped simp] theorem eq_nb {i} : eqD .none (.bool i) = some false := id rfl
@[scoped simp] theorem eq_bn {i} : eqD (.bool i) .none = some false := id rfl
@[scoped simp] theorem eq_ns {i} : eqD .none (.str i) = some false := id rfl
@[scoped simp] theorem eq_sn {i} : eqD (.str i) .none = some false := id rfl
@[scoped simp] theorem eq_is {i j} : eqD (.int i) (.str j) = some false := id rfl
@[scoped simp] theorem eq_si {i j} : eqD (.str i) (.int j) = some false := id rfl
@[scoped simp] theorem eq_bs {i j} : eqD (.bool i) (.str j) = some false := id rfl
@[scoped simp] theorem eq_sb {i j} : eqD (.str i) (.bool j) = some false := id rfl
@[scoped simp] theorem idx_li {l : List D} {k : Int} : idxD (.list l) (.int k) = ixD l k := id rfl
@[scoped simp] theorem idx_ti {l : List D} {k : Int} : idxD (.tuple l) (.int k) = ixD l k := id rfl
@[scoped simp] theorem ixD_0 {l : List D} {a : D} : ixD (a :: l) 0 = some a := ixD_at (k := 0) (by simp)
@[scoped simp] theorem ixD_1 {l : List D} (h : 1 < l.length) : ixD l 1 = l[1]? := ixD_at (k := 1) h
@[scoped simp] theorem ixD_lit {l : List D} {k : Nat} (h : k < l.length) : ixD l (no_index (OfNat.ofNat k : Int)) = l[k]? := ixD_at (k := k) h
@[scoped simp] theorem ixD_m1 {l : List D} (h : 0 < l.length) : ixD l (-1) = l[l.length - 1]? := by
  unfold ixD
  rw [Ev.ixN_m1 h]
  rfl
@[scoped simp] theorem ixD_m2 {l : List D} (h : 1 < l.length) : ixD l (-2) = l[l.length - 2]? := by
  unfold ixD
  rw [Ev.ixN_m2 h]
  rfl
@[scoped simp] theorem fits_0 : fits 0 = true := by decide
@[scoped simp] theorem fits_1 : fits 1 = true := by decide
@[scoped simp] theorem sizeOk_0 : sizeOk 0 = true := by decide
@[scoped simp] theorem sizeOk_1 : sizeOk 1 = true := by decide
@[scoped simp] theorem rngOk_0 : rngOk 0 = true := by decide
@[scoped simp] theorem rngOk_1 : rngOk 1 = true := by decide
@[scoped simp] theorem fits_2 : fits 2 = true := decide_eq_true (by decide)
@[scoped simp] theorem sizeOk_2 : sizeOk 2 = true := decide_eq_true (by decide)
@[scoped simp] theorem rngOk_2 : rngOk 2 = true := decide_eq_true (by decide)
@[scoped simp] theorem fits_3 : fits 3 = true := decide_eq_true (by decide)
@[scoped simp] theorem sizeOk_3 : sizeOk 3 = true := decide_eq_true (by decide)
@[scoped simp] theorem rngOk_3 : rngOk 3 = true := decide_eq_true (by decide)
@[scoped simp] theorem fits_4 : fits 4 = true := decide_eq_true (by decide)
@[scoped simp] theorem sizeOk_4 : sizeOk 4 = true := decide_eq_true (by decide)
@[scoped simp] theorem rngOk_4 : rngOk 4 = true := decide_eq_true (by decide)
@[scoped simp] theorem fits_5 : fits 5 = true := decide_eq_true (by decide)
@[scoped simp] theorem sizeOk_5 : sizeOk 5 = true := decide_eq_true (by decide)
@[scoped simp] theorem rngOk_5 : rngOk 5 = true := decide_eq_true (by decide)
@[scoped simp] theorem fits_6 : fits 6 = true := decide_eq_true (by decide)
@[scoped simp] theorem sizeOk_6 : sizeOk 6 = true := decide_eq_true (by decide)
@[scoped simp] theorem rngOk_6 : rngOk 6 = true := decide_eq_true (by decide)
@[scoped simp] theorem fits_7 : fits 7 = true := decide_eq_true (by decide)
@[scoped simp] theorem sizeOk_7 : sizeOk 7 = true := decide_eq_true (by decide)
@[scoped simp] theorem rngOk_7 : rngOk 7 = true := decide_eq_true (by decide)
@[scoped simp] theorem fits_8 : fits 8 = true := decide_eq_true (by decide)
@[scoped simp] theorem sizeOk_8 : sizeOk 8 = true := decide_eq_true (by decide)
@[scoped simp] theorem rngOk_8 : rngOk 8 = true := decide_eq_true (by decide)
@[scoped simp] theorem fits_9 : fits 9 = true := decide_eq_true (by decide)
@[scoped simp] theorem sizeOk_9 : sizeOk 9 = true := decide_eq_true (by decide)
@[scoped simp] theorem rngOk_9 : rngOk 9 = true := decide_eq_true (by decide)
@[scoped simp] theorem fits_10 : fits 10 = true := decide_eq_true (by decide)
@[scoped simp] theorem sizeOk_10 : sizeOk 10 = true := decide_eq_true (by decide)
@[scoped simp] theorem rngOk_10 : rngOk 10 = true := decide_eq_true (by decide)
@[scoped simp] theorem fits_11 : fits 11 = true := decide_eq_true (by decide)
@[scoped simp] theorem sizeOk_11 : sizeOk 11 = true := decide_eq_true (by decide)
@[scoped simp] theorem rngOk_11 : rngOk 11 = true := decide_eq_true (by decide)
@[scoped simp] theorem fits_12 : fits 12 = true := decide_eq_true (by decide)
@[scoped simp] theorem sizeOk_12 : sizeOk 12 = true := decide_eq_true (by decide)
@[scoped simp] theorem rngOk_12 : rngOk 12 = true := decide_eq_true (by decide)
@[scoped simp] theorem fits_13 : fits 13 = true := decide_eq_true (by decide)
@[scoped simp] theorem sizeOk_13 : sizeOk 13 = true := decide_eq_true (by decide)
@[scoped simp] theorem rngOk_13 : rngOk 13 = true := decide_eq_true (by decide)
@[scoped simp] theorem fits_14 : fits 14 = true := decide_eq_true (by decide)
@[scoped simp] theorem sizeOk_14 : sizeOk 14 = true := decide_eq_true (by decide)
@[scoped simp] theorem rngOk_14 : rngOk 14 = true := decide_eq_true (by decide)
@[scoped simp] theorem fits_15 : fits 15 = true := decide_eq_true (by decide)
@[scoped simp] theorem sizeOk_15 : sizeOk 15 = true := decide_eq_true (by decide)
@[scoped simp] theorem rngOk_15 : rngOk 15 = true := decide_eq_true (by decide)
@[scoped simp] theorem fits_16 : fits 16 = true := decide_eq_true (by decide)
@[scoped simp] theorem sizeOk_16 : sizeOk 16 = true := decide_eq_true (by decide)
@[scoped simp] theorem rngOk_16 : rngOk 16 = true := decide_eq_true (by decide)
@[scoped simp] theorem fits_17 : fits 17 = true := decide_eq_true (by decide)
@[scoped simp] theorem sizeOk_17 : sizeOk 17 = true := decide_eq_true (by decide)
@[scoped simp] theorem rngOk_17 : rngOk 17 = true := decide_eq_true (by decide)
@[scoped simp] theorem fits_18 : fits 18 = true := decide_eq_true (by decide)
@[scoped simp] theorem sizeOk_18 : sizeOk 18 = true := decide_eq_true (by decide)
@[scoped simp] theorem rngOk_18 : rngOk 18 = true := decide_eq_true (by decide)
@[scoped simp] theorem fits_19 : fits 19 = true := decide_eq_true (by decide)
@[scoped simp] theorem sizeOk_19 : sizeOk 19 = true := decide_eq_true (by decide)
@[scoped simp] theorem rngOk_19 : rngOk 19 = true := decide_eq_true (by decide)
@[scoped simp] theorem fits_20 : fits 20 = true := decide_eq_true (by decide)
@[scoped simp] theorem sizeOk_20 : sizeOk 20 = true := decide_eq_true (by decide)
@[scoped simp] theorem rngOk_20 : rngOk 20 = true := decide_eq_true (by decide)
@[scoped simp] theorem fits_21 : fits 21 = true := decide_eq_true (by decide)
@[scoped simp] theorem sizeOk_21 : sizeOk 21 = true := decide_eq_true (by decide)
@[scoped simp] theorem rngOk_21 : rngOk 21 = true := decide_eq_true (by decide)
@[scoped simp] theorem fits_22 : fits 22 = true := decide_eq_true (by decide)
@[scoped simp] theorem sizeOk_22 : sizeOk 22 = true := decide_eq_true (by decide)
@[scoped simp] theorem rngOk_22 : rngOk 22 = true := decide_eq_true (by decide)
@[scoped simp] theorem fits_23 : fits 23 = true := decide_eq_true (by decide)
@[scoped simp] theorem sizeOk_23 : sizeOk 23 = true := decide_eq_true (by decide)
@[scoped simp] theorem rngOk_23 : rngOk 23 = true := decide_eq_true (by decide)
@[scoped simp] theorem fits_24 : fits 24 = true := decide_eq_true (by decide)
@[scoped simp] theorem sizeOk_24 : sizeOk 24 = true := decide_eq_true (by decide)
@[scoped simp] theorem rngOk_24 : rngOk 24 = true := decide_eq_true (by decide)
@[scoped simp] theorem fits_25 : fits 25 = true := decide_eq_true (by decide)
@[scoped simp] theorem sizeOk_25 : sizeOk 25 = true := decide_eq_true (by decide)
@[scoped simp] theorem rngOk_25 : rngOk 25 = true := decide_eq_true (by decide)
@[scoped simp] theorem fits_26 : fits 26 = true := decide_eq_true (by decide)
@[scoped simp] theorem sizeOk_26 : sizeOk 26 = true := decide_eq_true (by decide)
@[scoped simp] theorem rngOk_26 : rngOk 26 = true := decide_eq_true (by decide)
@[scoped simp] theorem fits_27 : fits 27 = true := decide_eq_true (by decide)
@[scoped simp] theorem sizeOk_27 : sizeOk 27 = true := decide_eq_true (by decide)
@[scoped simp] theorem rngOk_27 : rngOk 27 = true := decide_eq_true (by decide)
@[scoped simp] theorem fits_28 : fits 28 = true := decide_eq_true (by decide)
@[scoped simp] theorem sizeOk_28 : sizeOk 28 = true := decide_eq_true (by decide)
@[scoped simp] theorem rngOk_28 : rngOk 28 = true := decide_eq_true (by decide)
@[scoped simp] theorem fits_29 : fits 29 = true := decide_eq_true (by decide)
@[scoped simp] theorem sizeOk_29 : sizeOk 29 = true := decide_eq_true (by decide)
@[scoped simp] theorem rngOk_29 : rngOk 29 = true := decide_eq_true (by decide)
@[scoped simp] theorem fits_30 : fits 30 = true := decide_eq_true (by decide)
@[scoped simp] theorem sizeOk_30 : sizeOk 30 = true := decide_eq_true (by decide)
@[scoped simp] theorem rngOk_30 : rngOk 30 = true := decide_eq_true (by decide)
@[scoped simp] theorem fits_31 : fits 31 = true := decide_eq_true (by decide)
@[scoped simp] theorem sizeOk_31 : sizeOk 31 = true := decide_eq_true (by decide)
@[scoped simp] theorem rngOk_31 : rngOk 31 = true := decide_eq_true (by decide)
@[scoped simp] theorem fits_32 : fits 32 = true := decide_eq_true (by decide)
@[scoped simp] theorem sizeOk_32 : sizeOk 32 = true := decide_eq_true (by decide)
@[scoped simp] theorem rngOk_32 : rngOk 32 = true := decide_eq_true (by decide)
@[scoped simp] theorem fits_33 : fits 33 = true := decide_eq_true (by decide)
@[scoped simp] theorem sizeOk_33 : sizeOk 33 = true := decide_eq_true (by decide)
@[scoped simp] theorem rngOk_33 : rngOk 33 = true := decide_eq_true (by decide)
@[scoped simp] theorem fits_34 : fits 34 = true := decide_eq_true (by decide)
@[scoped simp] theorem sizeOk_34 : sizeOk 34 = true := decide_eq_true (by decide)
@[scoped simp] theorem rngOk_34 : rngOk 34 = true := decide_eq_true (by decide)
@[scoped simp] theorem fits_35 : fits 35 = true := decide_eq_true (by decide)
@[scoped simp] theorem sizeOk_35 : sizeOk 35 = true := decide_eq_true (by decide)
@[scoped simp] theorem rngOk_35 : rngOk 35 = true := decide_eq_true (by decide)
@[scoped simp] theorem fits_36 : fits 36 = true := decide_eq_true (by decide)
@[scoped simp] theorem sizeOk_36 : sizeOk 36 = true := decide_eq_true (by decide)
@[scoped simp] theorem rngOk_36 : rngOk 36 = true := decide_eq_true (by decide)
@[scoped simp] theorem fits_37 : fits 37 = true := decide_eq_true (by decide)
@[scoped simp] theorem sizeOk_37 : sizeOk 37 = true := decide_eq_true (by decide)
@[scoped simp] theorem rngOk_37 : rngOk 37 = true := decide_eq_true (by decide)
@[scoped simp] theorem fits_38 : fits 38 = true := decide_eq_true (by decide)
@[scoped simp] theorem sizeOk_38 : sizeOk 38 = true := decide_eq_true (by decide)
@[scoped simp] theorem rngOk_38 : rngOk 38 = true := decide_eq_true (by decide)
@[scoped simp] theorem fits_39 : fits 39 = true := decide_eq_true (by decide)
@[scoped simp] theorem sizeOk_39 : sizeOk 39 = true := decide_eq_true (by decide)
@[scoped simp] theorem rngOk_39 : rngOk 39 = true := decide_eq_true (by decide)
@[scoped simp] theorem fits_40 : fits 40 = true := decide_eq_true (by decide)
@[scoped simp] theorem sizeOk_40 : sizeOk 40 = true := decide_eq_true (by decide)
@[scoped simp] theorem rngOk_40 : rngOk 40 = true := decide_eq_true (by decide)
@[scoped simp] theorem fits_41 : fits 41 = true := decide_eq_true (by decide)
@[scoped simp] theorem sizeOk_41 : sizeOk 41 = true := decide_eq_true (by decide)
@[scoped simp] theorem rngOk_41 : rngOk 41 = true := decide_eq_true (by decide)
@[scoped simp] theorem fits_42 : fits 42 = true := decide_eq_true (by decide)
@[scoped simp] theorem sizeOk_42 : sizeOk 42 = true := decide_eq_true (by decide)
@[scoped simp] theorem rngOk_42 : rngOk 42 = true := decide_eq_true (by decide)
@[scoped simp] theorem fits_43 : fits 43 = true := decide_eq_true (by decide)
@[scoped simp] theorem sizeOk_43 : sizeOk 43 = true := decide_eq_true (by decide)
@[scoped simp] theorem rngOk_43 : rngOk 43 = true := decide_eq_true (by decide)
@[scoped simp] theorem fits_44 : fits 44 = true := decide_eq_true (by decide)
@[scoped simp] theorem sizeOk_44 : sizeOk 44 = true := decide_eq_true (by decide)
@[scoped simp] theorem rngOk_44 : rngOk 44 = true := decide_eq_true (by decide)
@[scoped simp] theorem fits_45 : fits 45 = true := decide_eq_true (by decide)
@[scoped simp] theorem sizeOk_45 : sizeOk 45 = true := decide_eq_true (by decide)
@[scoped simp] theorem rngOk_45 : rngOk 45 = true := decide_eq_true (by decide)
@[scoped simp] theorem fits_46 : fits 46 = true := decide_eq_true (by decide)
@[scoped simp] theorem sizeOk_46 : sizeOk 46 = true := decide_eq_true (by decide)
@[scoped simp] theorem rngOk_46 : rngOk 46 = true := decide_eq_true (by decide)
@[scoped simp] theorem fits_47 : fits 47 = true := decide_eq_true (by decide)
@[scoped simp] theorem sizeOk_47 : sizeOk 47 = true := decide_eq_true (by decide)
@[scoped simp] theorem rngOk_47 : rngOk 47 = true := decide_eq_true (by decide)
@[scoped simp] theorem fits_48 : fits 48 = true := decide_eq_true (by decide)
@[scoped simp] theorem sizeOk_48 : sizeOk 48 = true := decide_eq_true (by decide)
@[scoped simp] theorem rngOk_48 : rngOk 48 = true := decide_eq_true (by decide)
@[scoped simp] theorem fits_49 : fits 49 = true := decide_eq_true (by decide)
@[scoped simp] theorem sizeOk_49 : sizeOk 49 = true := decide_eq_true (by decide)
@[scoped simp] theorem rngOk_49 : rngOk 49 = true := decide_eq_true (by decide)
@[scoped simp] theorem fits_50 : fits 50 = true := decide_eq_true (by decide)
@[scoped simp] theorem sizeOk_50 : sizeOk 50 = true := decide_eq_true (by decide)
@[scoped simp] theorem rngOk_50 : rngOk 50 = true := decide_eq_true (by decide)
@[scoped simp] theorem fits_51 : fits 51 = true := decide_eq_true (by decide)
@[scoped simp] theorem sizeOk_51 : sizeOk 51 = true := decide_eq_true (by decide)
@[scoped simp] theorem rngOk_51 : rngOk 51 = true := decide_eq_true (by decide)
@[scoped simp] theorem fits_52 : fits 52 = true := decide_eq_true (by decide)
@[scoped simp] theorem sizeOk_52 : sizeOk 52 = true := decide_eq_true (by decide)
@[scoped simp] theorem rngOk_52 : rngOk 52 = true := decide_eq_true (by decide)
@[scoped simp] theorem fits_53 : fits 53 = true := decide_eq_true (by decide)
@[scoped simp] theorem sizeOk_53 : sizeOk 53 = true := decide_eq_true (by decide)
@[scoped simp] theorem rngOk_53 : rngOk 53 = true := decide_eq_true (by decide)
@[scoped simp] theorem fits_54 : fits 54 = true := decide_eq_true (by decide)
@[scoped simp] theorem sizeOk_54 : sizeOk 54 = true := decide_eq_true (by decide)
@[scoped simp] theorem rngOk_54 : rngOk 54 = true := decide_eq_true (by decide)
@[scoped simp] theorem fits_55 : fits 55 = true := decide_eq_true (by decide)
@[scoped simp] theorem sizeOk_55 : sizeOk 55 = true := decide_eq_true (by decide)
@[scoped simp] theorem rngOk_55 : rngOk 55 = true := decide_eq_true (by decide)
@[scoped simp] theorem fits_56 : fits 56 = true := decide_eq_true (by decide)
@[scoped simp] theorem sizeOk_56 : sizeOk 56 = true := decide_eq_true (by decide)
@[scoped simp] theorem rngOk_56 : rngOk 56 = true := decide_eq_true (by decide)
@[scoped simp] theorem fits_57 : fits 57 = true := decide_eq_true (by decide)
@[scoped simp] theorem sizeOk_57 : sizeOk 57 = true := decide_eq_true (by decide)
@[scoped simp] theorem rngOk_57 : rngOk 57 = true := decide_eq_true (by decide)
@[scoped simp] theorem fits_58 : fits 58 = true := decide_eq_true (by decide)
@[scoped simp] theorem sizeOk_58 : sizeOk 58 = true := decide_eq_true (by decide)
@[scoped simp] theorem rngOk_58 : rngOk 58 = true := decide_eq_true (by decide)
@[scoped simp] theorem fits_59 : fits 59 = true := decide_eq_true (by decide)
@[scoped simp] theorem sizeOk_59 : sizeOk 59 = true := decide_eq_true (by decide)
@[scoped simp] theorem rngOk_59 : rngOk 59 = true := decide_eq_true (by decide)
@[scoped simp] theorem fits_60 : fits 60 = true := decide_eq_true (by decide)
@[scoped simp] theorem sizeOk_60 : sizeOk 60 = true := decide_eq_true (by decide)
@[scoped simp] theorem rngOk_60 : rngOk 60 = true := decide_eq_true (by decide)
@[scoped simp] theorem fits_61 : fits 61 = true := decide_eq_true (by decide)
@[scoped simp] theorem sizeOk_61 : sizeOk 61 = true := decide_eq_true (by decide)
@[scoped simp] theorem rngOk_61 : rngOk 61 = true := decide_eq_true (by decide)
@[scoped simp] theorem fits_62 : fits 62 = true := decide_eq_true (by decide)
@[scoped simp] theorem sizeOk_62 : sizeOk 62 = true := decide_eq_true (by decide)
@[scoped simp] theorem rngOk_62 : rngOk 62 = true := decide_eq_true (by decide)
@[scoped simp] theorem fits_63 : fits 63 = true := decide_eq_true (by decide)
@[scoped simp] theorem sizeOk_63 : sizeOk 63 = true := decide_eq_true (by decide)
@[scoped simp] theorem rngOk_63 : rngOk 63 = true := decide_eq_true (by decide)
@[scoped simp] theorem fits_64 : fits 64 = true := decide_eq_true (by decide)
@[scoped simp] theorem sizeOk_64 : sizeOk 64 = true := decide_eq_true (by decide)
@[scoped simp] theorem rngOk_64 : rngOk 64 = true := decide_eq_true (by decide)
@[scoped simp] theorem mem_t {x : D} {l : List D} : memD x (.tuple l) = if (flatD x && l.all flatD) = true then some (inV (flV x) (l.map flV)) else if (SeqAt.shaped x && SeqAt.shaped (.tuple l)) = true then some (l.any fun z => PyData.eqv z x) else none := id rfl
@[scoped simp] theorem mem_l {x : D} {l : List D} : memD x (.list l) = if (SeqAt.shaped x && SeqAt.shaped (.list l)) = true then some (l.any fun z => PyData.eqv z x) else none := id rfl
@[scoped simp] theorem flatD_i {i} : flatD (.int i) = true := id rfl
@[scoped simp] theorem flatD_s {i} : flatD (.str i) = true := id rfl
@[scoped simp] theorem flatD_b {i} : flatD (.bool i) = true := id rfl
@[scoped simp] theorem flatD_n : flatD .none = true := id rfl
@[scoped simp] theorem flV_i {i} : flV (.int i) = .int i := id rfl
@[scoped simp] theorem flV_s {i} : flV (.str i) = .str i := id rfl
@[scoped simp] theorem flV_b {i} : flV (.bool i) = .bl i := id rfl
@[scoped simp] theorem flV_n : flV .none = .non := id rfl
@[scoped simp] theorem inV_nil {x : V} : inV x [] = false := id rfl
@[scoped simp] theorem inV_cons {x y : V} {l : List V} : inV x (y :: l) = (eqV y x || inV x l) := id rfl
@[scoped simp] theorem eqV_ss {x y : Str} : eqV (.str x) (.str y) = decide (x = y) := by simp only [eqV]; rw [Bool.eq_iff_iff]; simp
@[scoped simp] theorem eqV_ii {x y : Int} : eqV (.int x) (.int y) = decide (x = y) := by simp only [eqV]; rw [Bool.eq_iff_iff]; simp
@[scoped simp] theorem eqv_ii {x y : Int} : PyData.eqv (.int x) (.int y) = decide (x = y) := by simp only [PyData.eqv]; rw [Bool.eq_iff_iff]; simp
@[scoped simp] theorem eqv_ss {x y : Str} : PyData.eqv (.str x) (.str y) = decide (x = y) := by simp only [PyData.eqv]; rw [Bool.eq_iff_iff]; simp
@[scoped simp] theorem eqv_bb {x y : Bool} : PyData.eqv (.bool x) (.bool y) = decide (x = y) := by simp only [PyData.eqv]; rw [Bool.eq_iff_iff]; simp
@[scoped simp] theorem eqv_nn : PyData.eqv .none .none = true := by simp only [PyData.eqv]
@[scoped simp] theorem eqv_tt {x y} : PyData.eqv (.tuple x) (.tuple y) = PyData.eqvAll x y := by simp only [PyData.eqv]
@[scoped simp] theorem eqv_ll {x y} : PyData.eqv (.list x) (.list y) = PyData.eqvAll x y := by simp only [PyData.eqv]
@[scoped simp] theorem eqv_si {x y} : PyData.eqv (.str x) (.int y) = false := by simp only [PyData.eqv]
@[scoped simp] theorem eqv_is {x y} : PyData.eqv (.int x) (.str y) = false := by simp only [PyData.eqv]
@[scoped simp] theorem eqv_it {x y} : PyData.eqv (.int x) (.tuple y) = false := by simp only [PyData.eqv]
@[scoped simp] theorem eqv_ti {x y} : PyData.eqv (.tuple x) (.int y) = false := by simp only [PyData.eqv]
@[scoped simp] theorem eqv_st {x y} : PyData.eqv (.str x) (.tuple y) = false := by simp only [PyData.eqv]
@[scoped simp] theorem eqv_ts {x y} : PyData.eqv (.tuple x) (.str y) = false := by simp only [PyData.eqv]
@[scoped simp] theorem eqvA_n : PyData.eqvAll [] [] = true := by simp only [PyData.eqvAll]
@[scoped simp] theorem eqvA_c {x y xs ys} : PyData.eqvAll (x :: xs) (y :: ys) = (PyData.eqv x y && PyData.eqvAll xs ys) := by simp only [PyData.eqvAll]
@[scoped simp] theorem eqvA_nc {y ys} : PyData.eqvAll [] (y :: ys) = false := by simp only [PyData.eqvAll]
@[scoped simp] theorem eqvA_cn {y ys} : PyData.eqvAll (y :: ys) [] = false := by simp only [PyData.eqvAll]
@[scoped simp] theorem eq_tt {x y} : eqD (.tuple x) (.tuple y) = if (SeqAt.shaped (.tuple x) && SeqAt.shaped (.tuple y)) = true then some (PyData.eqvAll x y) else none := by unfold eqD; simp [isScal]
@[scoped simp] theorem eq_ll {x y} : eqD (.list x) (.list y) = if (SeqAt.shaped (.list x) && SeqAt.shaped (.list y)) = true then some (PyData.eqvAll x y) else none := by unfold eqD; simp [isScal]
theorem eq_any {x y} (h : isScal x y = false) : eqD x y = if (SeqAt.shaped x && SeqAt.shaped y) = true then some (PyData.eqv x y) else none := by unfold eqD; simp [h]
@[scoped simp] theorem cut_eq {α : Type} {l : List α} {a b} : cutD l a b = (l.drop (HT.sIx l.length 0 a)).take (HT.sIx l.length l.length b - HT.sIx l.length 0 a) := id rfl
@[scoped simp] theorem sIx_n {n x} : HT.sIx n x none = x := id rfl
@[scoped simp] theorem sIx_0 {n x} : HT.sIx n x (some 0) = 0 := by rw [show (0 : Int) = ((0 : Nat) : Int) from rfl, HT.sIx_nat]; omega
@[scoped simp] theorem sIx_1 {n x} : HT.sIx n x (some 1) = min 1 n := by rw [show (1 : Int) = ((1 : Nat) : Int) from rfl, HT.sIx_nat]
@[scoped simp] theorem sIx_lit {n x k : Nat} : HT.sIx n x (some (no_index (OfNat.ofNat k : Int))) = min k n := HT.sIx_nat n x k
@[scoped simp] theorem sIx_succ {n x k : Nat} : HT.sIx n x (some ((k : Int) + 1)) = min (k + 1) n := HT.sIx_nat n x (k + 1)
@[scoped simp] theorem sIx_nat {n x k : Nat} : HT.sIx n x (some (k : Int)) = min k n := HT.sIx_nat n x k
@[scoped simp] theorem slc_l {l : List D} {a b} : slcD (.list l) a b = some (.list (cutD l a b)) := id rfl
@[scoped simp] theorem slc_t {l : List D} {a b} : slcD (.tuple l) a b = some (.tuple (cutD l a b)) := id rfl
@[scoped simp] theorem blt_lenl {l} : bltD .len (.list l) = some (.int l.length) := id rfl
@[scoped simp] theorem blt_lent {l} : bltD .len (.tuple l) = some (.int l.length) := id rfl
@[scoped simp] theorem blt_lens {x : Str} : bltD .len (.str x) = if fits x.length then some (.int x.length) else none := id rfl
@[scoped simp] theorem blt_abs {i : Int} : bltD .abs (.int i) = some (.int (if i < 0 then -i else i)) := id rfl
@[scoped simp] theorem blt_min {l} : bltD .min (.list l) = bnd (intsOf l) fun ns => bnd (minL ns) fun m => some (.int m) := by
  show ((intsOf l).bind fun ns => (minL ns).map PyData.int) = _
  cases intsOf l
  · rfl
  · rename_i ns; show (minL ns).map PyData.int = _; cases h : minL ns <;> simp [h, bnd]
@[scoped simp] theorem blt_minT {l} : bltD .min (.tuple l) = bnd (intsOf l) fun ns => bnd (minL ns) fun m => some (.int m) := by
  show ((intsOf l).bind fun ns => (minL ns).map PyData.int) = _
  cases intsOf l
  · rfl
  · rename_i ns; show (minL ns).map PyData.int = _; cases h : minL ns <;> simp [h, bnd]
@[scoped simp] theorem blt_max {l} : bltD .max (.list l) = bnd (intsOf l) fun ns => bnd (maxL ns) fun m => some (.int m) := by
  show ((intsOf l).bind fun ns => (maxL ns).map PyData.int) = _
  cases intsOf l
  · rfl
  · rename_i ns; show (maxL ns).map PyData.int = _; cases h : maxL ns <;> simp [h, bnd]
@[scoped simp] theorem blt_sum {l} : bltD .sum (.list l) = bnd (intsOf l) fun ns => some (.int ns.sum) := by
  show ((intsOf l).map fun ns => PyData.int ns.sum) = _
  cases intsOf l <;> rfl
@[scoped simp] theorem blt_all {l} : bltD .all (.list l) = bnd (boolsOf l) fun ns => some (.bool (ns.all id)) := by
  show ((boolsOf l).map fun ns => PyData.bool (ns.all id)) = _
  cases boolsOf l <;> rfl
@[scoped simp] theorem blt_any {l} : bltD .any (.list l) = bnd (boolsOf l) fun ns => some (.bool (ns.any id)) := by
  show ((boolsOf l).map fun ns => PyData.bool (ns.any id)) = _
  cases boolsOf l <;> rfl
@[scoped simp] theorem blt_tl {l} : bltD .tuple (.list l) = some (.tuple l) := id rfl
@[scoped simp] theorem blt_tt {l} : bltD .tuple (.tuple l) = some (.tuple l) := id rfl
@[scoped simp] theorem blt_ll {l} : bltD .list (.list l) = some (.list l) := id rfl
@[scoped simp] theorem blt_lt {l} : bltD .list (.tuple l) = some (.list l) := id rfl
@[scoped simp] theorem blt_ii {l} : bltD .int (.int l) = some (.int l) := id rfl
@[scoped simp] theorem blt_ib {b : Bool} : bltD .int (.bool b) = some (.int (if b then 1 else 0)) := id rfl
@[scoped simp] theorem blt2_min {i j : Int} : blt2D .min (.int i) (.int j) = some (.int (if j < i then j else i)) := id rfl
@[scoped simp] theorem blt2_max {i j : Int} : blt2D .max (.int i) (.int j) = some (.int (if j > i then j else i)) := id rfl
@[scoped simp] theorem isTy_in {t} : isTy t .none = false := by cases t <;> rfl
@[scoped simp] theorem isTy_d {t l} : isTy t (.dict l) = false := by cases t <;> rfl
@[scoped simp] theorem isTy_ii {i} : isTy .int (.int i) = true := id rfl
@[scoped simp] theorem isTy_ib {i} : isTy .int (.bool i) = true := id rfl
@[scoped simp] theorem isTy_is {i} : isTy .int (.str i) = false := id rfl
@[scoped simp] theorem isTy_il {i} : isTy .int (.list i) = false := id rfl
@[scoped simp] theorem isTy_it {i} : isTy .int (.tuple i) = false := id rfl
@[scoped simp] theorem isTy_bi {i} : isTy .bool (.int i) = false := id rfl
@[scoped simp] theorem isTy_bb {i} : isTy .bool (.bool i) = true := id rfl
@[scoped simp] theorem isTy_bs {i} : isTy .bool (.str i) = false := id rfl
@[scoped simp] theorem isTy_bl {i} : isTy .bool (.list i) = false := id rfl
@[scoped simp] theorem isTy_bt {i} : isTy .bool (.tuple i) = false := id rfl
@[scoped simp] theorem isTy_si {i} : isTy .str (.int i) = false := id rfl
@[scoped simp] theorem isTy_sb {i} : isTy .str (.bool i) = false := id rfl
@[scoped simp] theorem isTy_ss {i} : isTy .str (.str i) = true := id rfl
@[scoped simp] theorem isTy_sl {i} : isTy .str (.list i) = false := id rfl
@[scoped simp] theorem isTy_st {i} : isTy .str (.tuple i) = false := id rfl
@[scoped simp] theorem isTy_li {i} : isTy .list (.int i) = false := id rfl
@[scoped simp] theorem isTy_lb {i} : isTy .list (.bool i) = false := id rfl
@[scoped simp] theorem isTy_ls {i} : isTy .list (.str i) = false := id rfl
@[scoped simp] theorem isTy_ll {i} : isTy .list (.list i) = true := id rfl
@[scoped simp] theorem isTy_lt {i} : isTy .list (.tuple i) = false := id rfl
@[scoped simp] theorem isTy_ti {i} : isTy .tuple (.int i) = false := id rfl
@[scoped simp] theorem isTy_tb {i} : isTy .tuple (.bool i) = false := id rfl
@[scoped simp] theorem isTy_ts {i} : isTy .tuple (.str i) = false := id rfl
@[scoped simp] theorem isTy_tl {i} : isTy .tuple (.list i) = false := id rfl
@[scoped simp] theorem isTy_tt {i} : isTy .tuple (.tuple i) = true := id rfl
/-! lists of numbers -/
@[scoped simp] theorem intsOf_nil : intsOf [] = some [] := id rfl
@[scoped simp] theorem intsOf_cons {i r} : intsOf (.int i :: r) = bnd (intsOf r) fun l => some (i :: l) := by rw [intsOf]; cases intsOf r <;> rfl
@[scoped simp] theorem intsOf_map {l : List Int} : intsOf (l.map PyData.int) = some l := by
  induction l with
  | nil => rfl
  | cons a l ih => rw [List.map_cons, intsOf, ih]; rfl
@[scoped simp] theorem boolsOf_nil : boolsOf [] = some [] := id rfl
@[scoped simp] theorem boolsOf_cons {i r} : boolsOf (.bool i :: r) = bnd (boolsOf r) fun l => some (i :: l) := by rw [boolsOf]; cases boolsOf r <;> rfl
@[scoped simp] theorem boolsOf_map {l : List Bool} : boolsOf (l.map PyData.bool) = some l := by
  induction l with
  | nil => rfl
  | cons a l ih => rw [List.map_cons, boolsOf, ih]; rfl
theorem boolsOf_mapf {α : Type} {f : α → Bool} {l : List α} : boolsOf (l.map fun x => PyData.bool (f x)) = some (l.map f) := by
  rw [← boolsOf_map (l := l.map f), List.map_map]; rfl
theorem intsOf_mapf {α : Type} {f : α → Int} {l : List α} : intsOf (l.map fun x => PyData.int (f x)) = some (l.map f) := by
  rw [← intsOf_map (l := l.map f), List.map_map]; rfl
/-! paths -/
def atS : R → Option Int
  | .val (.int n) => some n
  | _ => none
@[scoped simp] theorem atI_n {i} : atI? ρ (.n i) = some i := id rfl
@[scoped simp] theorem atI_v {i} : atI? ρ (.v i) = atS (slot ρ i) := by
  simp only [atI?, atV]
  cases slot ρ i with
  | val d => cases d <;> rfl
  | _ => rfl
@[scoped simp] theorem atS_v {i} : atS (.val (.int i)) = some i := id rfl
@[scoped simp] theorem wp_nil {k d} : walkP ρ [] k d = some (k, d) := by simp only [walkP]
@[scoped simp] theorem wp_cons {a p k l} : walkP ρ (a :: p) k (.list l) = bnd (atI? ρ a) fun n => bnd (ixN l.length n) fun j => bnd l[j]? fun e => walkP ρ p (k - 1) e := by rw [walkP]; rfl
@[scoped simp] theorem cp_nil {f k l} : chgP ρ f [] (k + 1) (.list l) = bnd (f k l) fun x => some (.list x) := by rw [chgP]; cases f k l <;> rfl
@[scoped simp] theorem cp_cons {f a p k l} : chgP ρ f (a :: p) (k + 1) (.list l) = bnd (atI? ρ a) fun n => bnd (ixN l.length n) fun j => bnd l[j]? fun e => bnd (chgP ρ f p k e) fun e' => some (.list (l.set j e')) := by
  rw [chgP]
  cases atI? ρ a with
  | none => rfl
  | some n =>
    show ((ixN l.length n).bind _) = bnd (ixN l.length n) _
    cases ixN l.length n with
    | none => rfl
    | some j =>
      show (l[j]?.bind _) = bnd l[j]? _
      cases l[j]? with
      | none => rfl
      | some e => show (chgP ρ f p k e).map _ = bnd (chgP ρ f p k e) _; cases chgP ρ f p k e <;> rfl
@[scoped simp] theorem cr_own {f p k d} : chgR ρ f p (.own k d) = bnd (chgP ρ f p k d) fun x => some (.own k x) := by show (chgP ρ f p k d).map _ = _; cases chgP ρ f p k d <;> rfl
@[scoped simp] theorem cr_io {f p k d} : chgR ρ f p (.io k d) = bnd (chgP ρ f p k d) fun x => some (.io k x) := by show (chgP ρ f p k d).map _ = _; cases chgP ρ f p k d <;> rfl
@[scoped simp] theorem exAt_i {i} : exAt (.int i) = some (.n i) := id rfl
@[scoped simp] theorem exAt_v {i} : exAt (.var i) = some (.v i) := id rfl
@[scoped simp] theorem setD_eq {e n d k l} : setD O e n d k l = if k ≤ ow O e then bnd (ixN l.length n) fun j => some (l.set j d) else none := id rfl
@[scoped simp] theorem mut_app {e d k l} : mutD O .append (.cons e .nil) [d] k l = if k ≤ ow O e ∧ sizeOk l.length then some (l ++ [d]) else none := id rfl
@[scoped simp] theorem mut_ext {e x k l} : mutD O .extend (.cons e .nil) [.list x] k l = if k = 0 ∧ fits (l.length + x.length) then some (l ++ x) else none := id rfl
@[scoped simp] theorem mut_ins {e e2 n d k l} : mutD O .insert (.cons e (.cons e2 .nil)) [.int n, d] k l = if k = 0 ∧ 0 ≤ n ∧ n < 9223372036854775808 ∧ sizeOk l.length then some (l.take n.toNat ++ [d] ++ l.drop n.toNat) else none := id rfl
@[scoped simp] theorem mut_rev {k l} : mutD O .reverse .nil [] k l = some l.reverse := id rfl
@[scoped simp] theorem mut_clr {k l} : mutD O .clear .nil [] k l = some [] := id rfl
@[scoped simp] theorem ow_lst {es} : ow O (.lst es) = owL O es + 1 := by rw [ow]
@[scoped simp] theorem ow_comp {e t it cs o} : ow O (.comp e t it cs o) = ow O e + 1 := by rw [ow]
@[scoped simp] theorem ow_ite {c a b} : ow O (.ite c a b) = min (ow O a) (ow O b) := by rw [ow]
@[scoped simp] theorem owL_nil : owL O .nil = 8 := by rw [owL]
@[scoped simp] theorem owL_cons {e es} : owL O (.cons e es) = min (ow O e) (owL O es) := by rw [owL]
end
end Ev
theorem ow_n {O : Nat → Nat} {e : Ex} (h1 : ∀ es, e = .lst es → False) (h2 : ∀ x t i c o, e = .comp x t i c o → False) (h3 : ∀ c a b, e = .ite c a b → False) : ow O e = owC O e := by
  rw [ow.eq_4] <;> assumption
namespace Ev
section
variable {O : Nat → Nat}
@[scoped simp] theorem ow_non : ow O .non = 9 := ow_n (by simp) (by simp) (by simp)
@[scoped simp] theorem ow_bl {x0} : ow O (.bl x0) = 9 := ow_n (by simp) (by simp) (by simp)
@[scoped simp] theorem ow_int {x0} : ow O (.int x0) = 9 := ow_n (by simp) (by simp) (by simp)
@[scoped simp] theorem ow_str {x0} : ow O (.str x0) = 9 := ow_n (by simp) (by simp) (by simp)
@[scoped simp] theorem ow_var {x0} : ow O (.var x0) = 0 := ow_n (by simp) (by simp) (by simp)
@[scoped simp] theorem ow_mv {x0 x1} : ow O (.mv x0 x1) = x1 := ow_n (by simp) (by simp) (by simp)
@[scoped simp] theorem ow_sidx {x0 x1} : ow O (.sidx x0 x1) = 9 := ow_n (by simp) (by simp) (by simp)
@[scoped simp] theorem ow_slen {x0} : ow O (.slen x0) = 9 := ow_n (by simp) (by simp) (by simp)
@[scoped simp] theorem ow_pth {x0 x1} : ow O (.pth x0 x1) = 0 := ow_n (by simp) (by simp) (by simp)
@[scoped simp] theorem ow_glob {x0} : ow O (.glob x0) = 0 := ow_n (by simp) (by simp) (by simp)
@[scoped simp] theorem ow_bin {x0 x1 x2} : ow O (.bin x0 x1 x2) = 1 := ow_n (by simp) (by simp) (by simp)
@[scoped simp] theorem ow_neg {x0} : ow O (.neg x0) = 9 := ow_n (by simp) (by simp) (by simp)
@[scoped simp] theorem ow_cmp {x0 x1 x2} : ow O (.cmp x0 x1 x2) = 9 := ow_n (by simp) (by simp) (by simp)
@[scoped simp] theorem ow_chn {x0 x1 x2 x3 x4} : ow O (.chn x0 x1 x2 x3 x4) = 9 := ow_n (by simp) (by simp) (by simp)
@[scoped simp] theorem ow_and {x0} : ow O (.and x0) = 9 := ow_n (by simp) (by simp) (by simp)
@[scoped simp] theorem ow_or {x0} : ow O (.or x0) = 9 := ow_n (by simp) (by simp) (by simp)
@[scoped simp] theorem ow_not {x0} : ow O (.not x0) = 9 := ow_n (by simp) (by simp) (by simp)
@[scoped simp] theorem ow_tup {x0} : ow O (.tup x0) = 9 := ow_n (by simp) (by simp) (by simp)
@[scoped simp] theorem ow_idx {x0 x1} : ow O (.idx x0 x1) = 0 := ow_n (by simp) (by simp) (by simp)
@[scoped simp] theorem ow_slc {x0 x1 x2} : ow O (.slc x0 x1 x2) = 1 := ow_n (by simp) (by simp) (by simp)
@[scoped simp] theorem ow_rev {x0} : ow O (.rev x0) = 1 := ow_n (by simp) (by simp) (by simp)
@[scoped simp] theorem ow_call {x0 x1} : ow O (.call x0 x1) = O x0 := ow_n (by simp) (by simp) (by simp)
@[scoped simp] theorem ow_blt {x0 x1} : ow O (.blt x0 x1) = 1 := ow_n (by simp) (by simp) (by simp)
@[scoped simp] theorem ow_blt2 {x0 x1 x2} : ow O (.blt2 x0 x1 x2) = 9 := ow_n (by simp) (by simp) (by simp)
@[scoped simp] theorem ow_lrng {x0} : ow O (.lrng x0) = 9 := ow_n (by simp) (by simp) (by simp)
@[scoped simp] theorem ow_trng {x0} : ow O (.trng x0) = 9 := ow_n (by simp) (by simp) (by simp)
@[scoped simp] theorem ow_isi {x0 x1 x2} : ow O (.isi x0 x1 x2) = 9 := ow_n (by simp) (by simp) (by simp)
@[scoped simp] theorem ow_mth {x0 x1 x2} : ow O (.mth x0 x1 x2) = 1 := ow_n (by simp) (by simp) (by simp)
@[scoped simp] theorem ow_pop {x0 x1} : ow O (.pop x0 x1) = 0 := ow_n (by simp) (by simp) (by simp)
@[scoped simp] theorem ow_tget {x0 x1} : ow O (.tget x0 x1) = 0 := ow_n (by simp) (by simp) (by simp)
@[scoped simp] theorem ow_tmem {x0 x1} : ow O (.tmem x0 x1) = 9 := ow_n (by simp) (by simp) (by simp)
@[scoped simp] theorem ow_dsp {x0 x1 x2} : ow O (.dsp x0 x1 x2) = 0 := ow_n (by simp) (by simp) (by simp)
@[scoped simp] theorem ow_dspd {x0 x1 x2 x3} : ow O (.dspd x0 x1 x2 x3) = 0 := ow_n (by simp) (by simp) (by simp)
@[scoped simp] theorem ow_chn3 {x0 x1 x2 x3 x4 x5 x6} : ow O (.chn3 x0 x1 x2 x3 x4 x5 x6) = 9 := ow_n (by simp) (by simp) (by simp)
@[scoped simp] theorem ow_setlen {x0} : ow O (.setlen x0) = 9 := ow_n (by simp) (by simp) (by simp)
@[scoped simp] theorem ow_lnd {x0 x1} : ow O (.lnd x0 x1) = 9 := ow_n (by simp) (by simp) (by simp)
@[scoped simp] theorem ow_isx {x0 x1} : ow O (.isx x0 x1) = 9 := ow_n (by simp) (by simp) (by simp)
@[scoped simp] theorem ow_xnon {x0} : ow O (.xnon x0) = 9 := ow_n (by simp) (by simp) (by simp)
@[scoped simp] theorem ow_lnd2 {x0 x1 x2} : ow O (.lnd2 x0 x1 x2) = 9 := ow_n (by simp) (by simp) (by simp)
@[scoped simp] theorem ow_ixs {x0 x1} : ow O (.ixs x0 x1) = 9 := ow_n (by simp) (by simp) (by simp)
end
end Ev
/-! the module's tables -/
theorem lk_cons {α : Type} {z k : Str} {d : α} {r : List (Str × α)} : List.lookup z ((k, d) :: r) = if z = k then some d else List.lookup z r := by
  rw [List.lookup_cons]
  by_cases h : z = k
  · subst h; simp
  · have e : (z == k) = false := by simpa using h
    rw [e, if_neg h]
theorem tab_row : (tabs 0).lookup ("row" : Str) = some (pr2 0 1) := id rfl
theorem tab_col : (tabs 0).lookup ("column" : Str) = some (pr2 1 0) := id rfl
theorem tab_slant : (tabs 0).lookup ("slant" : Str) = some (pr2 1 1) := id rfl
theorem tab_back : (tabs 0).lookup ("back" : Str) = some (pr2 1 (-1)) := id rfl
end
end BW

/-! BwW3: loops and comprehensions by rules. -/
namespace BW
noncomputable section
open PySem PySem.Spec PyProof.Rows L2
/-- how a turn of a loop ends -/
def StepR (I : Env → Prop) (ks : List Nat) (Q : Res → Prop) : Res → Prop
  | .nx ρ => I (kills ρ ks)
  | .ct ρ => I (kills ρ ks)
  | .bk ρ => Q (.nx (kills ρ ks))
  | .rt d ρ => Q (.rt d ρ)
section
variable {C : Calls} {G : Nat → D} {O : Nat → Nat}
namespace Ev
@[scoped simp] theorem sr_nx {I ks Q ρ} : StepR I ks Q (.nx ρ) = I (kills ρ ks) := id rfl
@[scoped simp] theorem sr_ct {I ks Q ρ} : StepR I ks Q (.ct ρ) = I (kills ρ ks) := id rfl
@[scoped simp] theorem sr_bk {I ks Q ρ} : StepR I ks Q (.bk ρ) = Q (.nx (kills ρ ks)) := id rfl
@[scoped simp] theorem sr_rt {I ks Q d ρ} : StepR I ks Q (.rt d ρ) = Q (.rt d ρ) := id rfl
@[scoped simp] theorem fB_eq {t b d ρ} : fB C G O t b d ρ = bnd (bindT t d ρ) fun ρ' => evSs C G O b ρ' := id rfl
@[scoped simp] theorem cB_eq {e t cs own d ρ} : cB C G e t cs own d ρ = bnd (bindT t d ρ) fun ρ2 => bnd (evAnd C G cs ρ2) fun c => bnd (boolOf c.1) fun z =>
    cnd z (bnd (evE C G e c.2) fun x => some (some x.1, kills x.2 own)) (some (none, kills c.2 own)) := rfl
@[scoped simp] theorem forB_nil {t b ks ρ} : forB C G O t b ks [] ρ = some (.nx ρ) := id rfl
def consO : Option D → List D → List D
  | some x, l => x :: l
  | none, l => l
@[scoped simp] theorem consO_s {x l} : consO (some x) l = x :: l := id rfl
@[scoped simp] theorem consO_n {l} : consO none l = l := id rfl
@[scoped simp] theorem compB_cons {e t cs own d ds ρ} : compB C G e t cs own (d :: ds) ρ = bnd (cB C G e t cs own d ρ) fun p => bnd (compB C G e t cs own ds p.2) fun q => some (consO p.1 q.1, q.2) := by
  unfold compB
  rw [compL]
  cases cB C G e t cs own d ρ with
  | none => rfl
  | some p =>
    show (compL _ ds p.2).map _ = bnd (compL _ ds p.2) _
    cases compL (cB C G e t cs own) ds p.2 with
    | none => rfl
    | some q => cases h : p.1 <;> simp [h, bnd, consO]
def goF (f : Env → Option Res) (ks : List Nat) : Res → Option Res
  | .nx ρ => f (kills ρ ks)
  | .ct ρ => f (kills ρ ks)
  | .bk ρ => some (.nx (kills ρ ks))
  | .rt d ρ => some (.rt d ρ)
@[scoped simp] theorem goF_nx {f ks ρ} : goF f ks (.nx ρ) = f (kills ρ ks) := id rfl
@[scoped simp] theorem goF_ct {f ks ρ} : goF f ks (.ct ρ) = f (kills ρ ks) := id rfl
@[scoped simp] theorem goF_bk {f ks ρ} : goF f ks (.bk ρ) = some (.nx (kills ρ ks)) := id rfl
@[scoped simp] theorem goF_rt {f ks d ρ} : goF f ks (.rt d ρ) = some (.rt d ρ) := id rfl
@[scoped simp] theorem forB_cons {t b ks d ds ρ} : forB C G O t b ks (d :: ds) ρ = bnd (fB C G O t b d ρ) (goF (forB C G O t b ks ds) ks) := by
  unfold forB
  rw [forL]
  cases fB C G O t b d ρ with
  | none => rfl
  | some r => cases r <;> rfl
@[scoped simp] theorem mvB_nil {x k b ks ρ} : mvB C G O x k b ks [] ρ = some (.nx ρ) := id rfl
@[scoped simp] theorem mvB_cons {x k b ks d ds ρ} : mvB C G O x k b ks (d :: ds) ρ = bnd (mvB1 C G O x k b d ρ) (goF (mvB C G O x k b ks ds) ks) := by
  unfold mvB
  rw [forL]
  cases mvB1 C G O x k b d ρ with
  | none => rfl
  | some r => cases r <;> rfl
@[scoped simp] theorem mvB1_eq {x k b d ρ} : mvB1 C G O x k b d ρ = bnd (putR ρ x (mkR k d)) fun ρ' => evSs C G O b ρ' := id rfl
@[scoped simp] theorem compB_nil {e t cs own ρ} : compB C G e t cs own [] ρ = some ([], ρ) := id rfl
end Ev
theorem W_for {t b ks} (I : List D → Env → Prop) {ds : List D} {ρ : Env} {Q : Res → Prop} (h0 : I ds ρ) (hs : ∀ d ds ρ, I (d :: ds) ρ → W (fB C G O t b d ρ) (StepR (I ds) ks Q)) (hn : ∀ ρ, I [] ρ → Q (.nx ρ)) : W (forB C G O t b ks ds ρ) Q := by
  unfold forB
  induction ds generalizing ρ with
  | nil => exact ⟨_, rfl, hn _ h0⟩
  | cons d ds ih =>
    obtain ⟨r, e, q⟩ := hs d ds ρ h0
    rw [forL, e]
    cases r with
    | nx ρ' => exact ih q
    | ct ρ' => exact ih q
    | bk ρ' => exact ⟨_, rfl, q⟩
    | rt d ρ' => exact ⟨_, rfl, q⟩
/-- .. of items that are made of things -/
theorem W_forM {α : Type} {t b ks} (enc : α → D) (I : List α → Env → Prop) {xs : List α} {ds : List D} {ρ : Env} {Q : Res → Prop} (hd : ds = xs.map enc) (h0 : I xs ρ) (hs : ∀ x l ρ, x ∈ xs → I (x :: l) ρ → W (fB C G O t b (enc x) ρ) (StepR (I l) ks Q)) (hn : ∀ ρ, I [] ρ → Q (.nx ρ)) : W (forB C G O t b ks ds ρ) Q := by
  subst hd
  unfold forB
  induction xs generalizing ρ with
  | nil => exact ⟨_, rfl, hn _ h0⟩
  | cons d ds ih =>
    obtain ⟨r, e, q⟩ := hs d ds ρ (List.mem_cons_self ..) h0
    rw [List.map_cons, forL, e]
    cases r with
    | nx ρ' => exact ih q fun x l ρ hx => hs x l ρ (List.mem_cons_of_mem _ hx)
    | ct ρ' => exact ih q fun x l ρ hx => hs x l ρ (List.mem_cons_of_mem _ hx)
    | bk ρ' => exact ⟨_, rfl, q⟩
    | rt d ρ' => exact ⟨_, rfl, q⟩
/-- a loop that leaves the names as they were -/
theorem W_forC {α : Type} {t b ks} (enc : α → D) {xs : List α} {ds : List D} {ρ : Env} {Q : Res → Prop} (hd : ds = xs.map enc) (hs : ∀ x, x ∈ xs → W (fB C G O t b (enc x) ρ) (StepR (fun ρ' => ρ' = ρ) ks Q)) (hn : Q (.nx ρ)) : W (forB C G O t b ks ds ρ) Q :=
  W_forM enc (fun _ ρ' => ρ' = ρ) hd rfl (fun x l ρ' hx e => by subst e; exact hs x hx) fun ρ' e => by subst e; exact hn
/-- a loop that folds -/
theorem for_fold {α σ : Type} {t b ks} (enc : α → D) (st : σ → Env) (g : σ → α → σ) (P : σ → Prop) {xs : List α} {ds : List D} {s : σ} (hd : ds = xs.map enc) (h0 : P s) (hs : ∀ s x, x ∈ xs → P s → P (g s x) ∧ W (fB C G O t b (enc x) (st s)) (StepR (fun ρ => ρ = st (g s x)) ks fun _ => False)) : forB C G O t b ks ds (st s) = some (.nx (st (xs.foldl g s))) := by
  subst hd
  unfold forB
  induction xs generalizing s with
  | nil => rfl
  | cons d ds ih =>
    obtain ⟨p, r, e, q⟩ := hs s d (List.mem_cons_self ..) h0
    rw [List.map_cons, forL, e]
    cases r with
    | nx ρ' => exact (congrArg _ q).trans (ih p fun s x hx => hs s x (List.mem_cons_of_mem _ hx))
    | ct ρ' => exact (congrArg _ q).trans (ih p fun s x hx => hs s x (List.mem_cons_of_mem _ hx))
    | bk ρ' => exact False.elim q
    | rt d ρ' => exact False.elim q
/-- a loop that only adds to a list -/
theorem for_app {α β : Type} {t b ks} (enc : α → D) (st : List β → Env) (f : α → List β) (N : Nat) {xs : List α} {ds : List D} (hd : ds = xs.map enc) (hN : (xs.flatMap f).length ≤ N) (hs : ∀ acc x, x ∈ xs → acc.length + (f x).length ≤ N → W (fB C G O t b (enc x) (st acc)) (StepR (fun ρ => ρ = st (acc ++ f x)) ks fun _ => False)) : forB C G O t b ks ds (st []) = some (.nx (st (xs.flatMap f))) := by
  suffices H : ∀ (l : List α) (acc : List β), (∀ x ∈ l, x ∈ xs) → acc.length + (l.flatMap f).length ≤ N → forL (fB C G O t b) ks (l.map enc) (st acc) = some (.nx (st (acc ++ l.flatMap f))) by
    subst hd
    exact (H xs [] (fun _ h => h) (by simpa using hN)).trans (by simp)
  intro l
  induction l with
  | nil => intro acc _ _; simp [forL]
  | cons x l ih =>
    intro acc hm hl
    simp only [List.flatMap_cons, List.length_append] at hl
    obtain ⟨r, e, q⟩ := hs acc x (hm x (List.mem_cons_self ..)) (by omega)
    have := ih (acc ++ f x) (fun y hy => hm y (List.mem_cons_of_mem _ hy)) (by rw [List.length_append]; omega)
    rw [List.map_cons, forL, e, List.flatMap_cons, ← List.append_assoc]
    cases r with
    | nx ρ' => exact (congrArg _ q).trans this
    | ct ρ' => exact (congrArg _ q).trans this
    | bk ρ' => exact False.elim q
    | rt d ρ' => exact False.elim q
theorem for_app1 {α β : Type} {t b ks} (enc : α → D) (st : List β → Env) (f : α → β) (N : Nat) {xs : List α} {ds : List D} (hd : ds = xs.map enc) (hN : xs.length ≤ N) (hs : ∀ acc x, x ∈ xs → acc.length + 1 ≤ N → W (fB C G O t b (enc x) (st acc)) (StepR (fun ρ => ρ = st (acc ++ [f x])) ks fun _ => False)) : forB C G O t b ks ds (st []) = some (.nx (st (xs.map f))) := by
  have e : xs.flatMap (fun x => [f x]) = xs.map f := by
    clear hd hN hs
    induction xs with
    | nil => rfl
    | cons x l ih => rw [List.flatMap_cons, ih]; rfl
  have := for_app (C := C) (G := G) (O := O) (t := t) (b := b) (ks := ks) enc st (fun x => [f x]) N hd (by rw [e]; simpa using hN) fun acc x hx hl => hs acc x hx hl
  rwa [e] at this
theorem W_whl {c b ks} (I : Nat → Env → Prop) {n m : Nat} {ρ : Env} {Q : Res → Prop} (hm : m < n) (h0 : I m ρ) (hs : ∀ m ρ, I m ρ → W (evE C G c ρ) fun p => (p.1 = .bool true ∧ W (evSs C G O b p.2) (StepR (fun ρ' => ∃ m', m' < m ∧ I m' ρ') ks Q)) ∨ (p.1 = .bool false ∧ Q (.nx p.2))) : W (whlB C G O c b ks n ρ) Q := by
  unfold whlB
  induction n generalizing ρ m with
  | zero => omega
  | succ n ih =>
    obtain ⟨⟨d, ρ1⟩, e, q⟩ := hs m ρ h0
    rw [whlL, e]
    rcases q with ⟨rfl, r, e2, q⟩ | ⟨rfl, q⟩
    · simp only [Option.bind_some, boolOf, if_true]
      rw [e2]
      cases r with
      | nx ρ' => obtain ⟨m', hm', q⟩ := q; exact ih (m := m') (by omega) q
      | ct ρ' => obtain ⟨m', hm', q⟩ := q; exact ih (m := m') (by omega) q
      | bk ρ' => exact ⟨_, rfl, q⟩
      | rt d ρ' => exact ⟨_, rfl, q⟩
    · exact ⟨_, rfl, q⟩
theorem comp_of {α : Type} {e t cs own} {ρ : Env} (enc : α → D) (p : α → Bool) (g : α → D) {xs : List α} {ds : List D} (hd : ds = xs.map enc) (h : ∀ x ∈ xs, W (cB C G e t cs own (enc x) ρ) fun r => r = (if p x then some (g x) else none, ρ)) : compB C G e t cs own ds ρ = some ((xs.filter p).map g, ρ) := by
  subst hd
  unfold compB
  induction xs with
  | nil => rfl
  | cons x xs ih =>
    obtain ⟨r, e, rfl⟩ := h x (List.mem_cons_self ..)
    rw [List.map_cons, compL, e]
    simp only [Option.bind_some]
    rw [ih fun y hy => h y (List.mem_cons_of_mem _ hy)]
    cases hp : p x
    · simp [hp]
    · simp [hp]
theorem comp_map' {α : Type} {e t cs own} {ρ : Env} (enc : α → D) (g : α → D) {xs : List α} {ds : List D} (hd : ds = xs.map enc) (h : ∀ x ∈ xs, W (cB C G e t cs own (enc x) ρ) fun r => r = (some (g x), ρ)) : compB C G e t cs own ds ρ = some (xs.map g, ρ) := by
  have := comp_of (p := fun _ => true) (C := C) (G := G) (e := e) (t := t) (cs := cs) (own := own) enc g hd h
  rwa [List.filter_eq_self.mpr fun _ _ => rfl] at this
theorem W_comp {α : Type} {e t cs own} (enc : α → D) (I : List α → List D → Env → Prop) {xs : List α} {ds : List D} {ρ : Env} {Q : List D × Env → Prop} (hd : ds = xs.map enc) (h0 : I xs [] ρ) (hs : ∀ x l acc ρ, x ∈ xs → I (x :: l) acc ρ → W (cB C G e t cs own (enc x) ρ) fun r => I l (match r.1 with
    | some d => acc ++ [d]
    | none => acc) r.2) (hn : ∀ acc ρ, I [] acc ρ → Q (acc, ρ)) : W (compB C G e t cs own ds ρ) Q := by
  subst hd
  unfold compB
  suffices H : ∀ (acc : List D) (ρ : Env), I xs acc ρ → W (compL (cB C G e t cs own) (xs.map enc) ρ) (fun r => Q (acc ++ r.1, r.2)) by
    have := H [] ρ h0
    simpa using this
  clear h0 ρ
  induction xs with
  | nil => exact fun acc ρ h => ⟨_, rfl, by simpa using hn _ _ h⟩
  | cons x xs ih =>
    intro acc ρ h
    obtain ⟨r, e, q⟩ := hs x xs acc ρ (List.mem_cons_self ..) h
    obtain ⟨r2, e2, q2⟩ := ih (fun y l acc ρ hy => hs y l acc ρ (List.mem_cons_of_mem _ hy)) _ _ q
    rw [List.map_cons, compL, e]
    simp only [Option.bind_some]
    rw [e2]
    refine ⟨_, rfl, ?_⟩
    cases hr : r.1 with
    | none => rw [hr] at q2; exact q2
    | some d => rw [hr] at q2; simpa using q2
/-- a comprehension whose items are drawn: each as P says -/
theorem W_compP {α : Type} {e t cs own} (enc : α → D) (J : Env → Prop) (P : α → D → Prop) {xs : List α} {ds : List D} {ρ : Env} {Q : List D × Env → Prop} (hd : ds = xs.map enc) (h0 : J ρ) (hs : ∀ x ρ, x ∈ xs → J ρ → W (cB C G e t cs own (enc x) ρ) fun r => ∃ d, r.1 = some d ∧ P x d ∧ J r.2) (hn : ∀ l ρ, l.length = xs.length → (∀ (i : Nat) x d, xs[i]? = some x → l[i]? = some d → P x d) → J ρ → Q (l, ρ)) : W (compB C G e t cs own ds ρ) Q := by
  refine W_comp (C := C) (G := G) (e := e) (t := t) (cs := cs) (own := own) enc (fun l acc ρ => J ρ ∧ acc.length + l.length = xs.length ∧ (∀ i : Nat, xs[acc.length + i]? = l[i]?) ∧ ∀ (i : Nat) x d, xs[i]? = some x → acc[i]? = some d → P x d) hd ⟨h0, by simp, by simp, by simp⟩ ?_ ?_
  · rintro x l acc ρ hx ⟨hj, hl, hi, hp⟩
    refine (hs x ρ hx hj).mono ?_
    rintro ⟨r, ρ'⟩ ⟨d, rfl, pd, j⟩
    refine ⟨j, by simp at hl ⊢; omega, fun i => ?_, fun i y d' hy hd' => ?_⟩
    · have := hi (i + 1)
      simp at this ⊢
      rw [← this]
      congr 1
      omega
    · rw [List.getElem?_append] at hd'
      split at hd'
      · exact hp i y d' hy hd'
      · rename_i hlt
        have h0 := hi 0
        simp at h0
        have : i = acc.length := by
          rcases Nat.lt_or_ge acc.length i with h | h
          · rw [List.getElem?_eq_none (by simp; omega)] at hd'; cases hd'
          · omega
        subst this
        rw [h0] at hy
        simp at hd'
        cases hy; cases hd'
        exact pd
  · rintro acc ρ ⟨hj, hl, hi, hp⟩
    exact hn acc ρ (by simpa using hl) hp hj
theorem upTo_map {lo : Int} {n : Nat} : upTo lo n = (List.range n).map fun (k : Nat) => PyData.int (lo + k) := rfl
theorem upTo0_map {n : Nat} : upTo 0 n = (List.range n).map fun (k : Nat) => PyData.int k := by
  rw [upTo_map]
  congr; funext k
  rw [Int.zero_add]
theorem enumD_map {α : Type} {enc : α → D} : ∀ {xs : List α} {n : Nat}, enumD n (xs.map enc) = (xs.zipIdx n).map fun p => PyData.tuple [.int (p.2 : Nat), enc p.1]
  | [], n => rfl
  | x :: xs, n => by
    rw [List.map_cons, enumD, List.zipIdx_cons, List.map_cons, enumD_map]
theorem zipD_map {α β : Type} {enc : α → D} {enc2 : β → D} : ∀ {xs : List α} {ys : List β}, zipD (xs.map enc) (ys.map enc2) = (xs.zip ys).map fun p => PyData.tuple [enc p.1, enc2 p.2]
  | [], _ => rfl
  | _ :: _, [] => rfl
  | x :: xs, y :: ys => by
    rw [List.map_cons, List.map_cons, zipD, List.zip_cons_cons, List.map_cons, zipD_map]
end
/-- tests in row, whatever they tell -/
theorem W_anyb {b : Bool} {x : Option (D × Env)} {ρ : Env} {Q : D × Env → Prop} {t u v} (h : b = true → W x (fun r => ∃ z, r = (.bool z, ρ))) (k : ∀ z, Q (.bool z, ρ)) : W (cnd b x (some (.bool false, ρ)) t u) Q v := by
  cases b
  · exact ⟨_, rfl, k false⟩
  · obtain ⟨r, e, z, rfl⟩ := h rfl
    exact ⟨_, e, k z⟩
theorem W_anyo {b : Bool} {x : Option (D × Env)} {ρ : Env} {Q : D × Env → Prop} {t u v} (h : b = false → W x (fun r => ∃ z, r = (.bool z, ρ))) (k : ∀ z, Q (.bool z, ρ)) : W (cnd b (some (.bool true, ρ)) x t u) Q v := by
  cases b
  · obtain ⟨r, e, z, rfl⟩ := h rfl
    exact ⟨_, e, k z⟩
  · exact ⟨_, rfl, k true⟩
theorem callN_at {T : Tab} {G : Nat → D} {n f : Nat} {rs : List R} {m : MDef} (h : T f = some m) : callN T G (n + 1) f rs = if rs.length = m.np then bnd (evSs (callN T G n) G (ownT T) m.body (rs ++ List.replicate (m.nl - m.np) .un)) (endOf m.np) else none := by
  rw [callN]
  simp only [h]
  rfl
/-- a table's numbers are small -/
class CF (T : Tab) : Prop where
  far : ∀ f, T (f + rsK) = none
theorem callR_at {T : Tab} {G : Nat → D} {n f : Nat} {rs : List R} {m : MDef} [c : CF T] (h : T f = some m) : callN T G (n + 1) (f + rsK) rs = if rs.length = m.np then bnd (rsSs (callN T G n) G (ownT T) m.body (rs ++ List.replicate (m.nl - m.np) .un)) fun p => some (.str p.1, []) else none := by
  rw [callN]
  simp only [c.far f]
  rw [if_neg (by omega), Nat.add_sub_cancel, h]
  rfl
theorem ownT_at {T : Tab} {f : Nat} {m : MDef} (h : T f = some m) : ownT T f = m.own := by
  unfold ownT
  rw [h]
end
end BW

namespace BW
open PySem PySem.Spec PyProof.Rows L2
open scoped BW.Ev
/-! BwStr: the words that are compared. -/
namespace Ev
@[scoped simp] theorem s_skew_rests : (("skew" : Str) = "rests") = False := eq_false (by decide +kernel)
@[scoped simp] theorem s_skew_bits : (("skew" : Str) = "bits") = False := eq_false (by decide +kernel)
@[scoped simp] theorem s_skew_table : (("skew" : Str) = "table") = False := eq_false (by decide +kernel)
@[scoped simp] theorem s_skew_joined : (("skew" : Str) = "joined") = False := eq_false (by decide +kernel)
@[scoped simp] theorem s_skew_row : (("skew" : Str) = "row") = False := eq_false (by decide +kernel)
@[scoped simp] theorem s_skew_column : (("skew" : Str) = "column") = False := eq_false (by decide +kernel)
@[scoped simp] theorem s_skew_slant : (("skew" : Str) = "slant") = False := eq_false (by decide +kernel)
@[scoped simp] theorem s_skew_back : (("skew" : Str) = "back") = False := eq_false (by decide +kernel)
@[scoped simp] theorem s_skew_block : (("skew" : Str) = "block") = False := eq_false (by decide +kernel)
@[scoped simp] theorem s_skew_step : (("skew" : Str) = "step") = False := eq_false (by decide +kernel)
@[scoped simp] theorem s_skew_cells : (("skew" : Str) = "cells") = False := eq_false (by decide +kernel)
@[scoped simp] theorem s_skew_none : (("skew" : Str) = "none") = False := eq_false (by decide +kernel)
@[scoped simp] theorem s_skew_words : (("skew" : Str) = "words") = False := eq_false (by decide +kernel)
@[scoped simp] theorem s_skew_cases : (("skew" : Str) = "cases") = False := eq_false (by decide +kernel)
@[scoped simp] theorem s_skew_image : (("skew" : Str) = "image") = False := eq_false (by decide +kernel)
@[scoped simp] theorem s_rests_skew : (("rests" : Str) = "skew") = False := eq_false (by decide +kernel)
@[scoped simp] theorem s_rests_bits : (("rests" : Str) = "bits") = False := eq_false (by decide +kernel)
@[scoped simp] theorem s_rests_table : (("rests" : Str) = "table") = False := eq_false (by decide +kernel)
@[scoped simp] theorem s_rests_joined : (("rests" : Str) = "joined") = False := eq_false (by decide +kernel)
@[scoped simp] theorem s_rests_row : (("rests" : Str) = "row") = False := eq_false (by decide +kernel)
@[scoped simp] theorem s_rests_column : (("rests" : Str) = "column") = False := eq_false (by decide +kernel)
@[scoped simp] theorem s_rests_slant : (("rests" : Str) = "slant") = False := eq_false (by decide +kernel)
@[scoped simp] theorem s_rests_back : (("rests" : Str) = "back") = False := eq_false (by decide +kernel)
@[scoped simp] theorem s_rests_block : (("rests" : Str) = "block") = False := eq_false (by decide +kernel)
@[scoped simp] theorem s_rests_step : (("rests" : Str) = "step") = False := eq_false (by decide +kernel)
@[scoped simp] theorem s_rests_cells : (("rests" : Str) = "cells") = False := eq_false (by decide +kernel)
@[scoped simp] theorem s_rests_none : (("rests" : Str) = "none") = False := eq_false (by decide +kernel)
@[scoped simp] theorem s_rests_words : (("rests" : Str) = "words") = False := eq_false (by decide +kernel)
@[scoped simp] theorem s_rests_cases : (("rests" : Str) = "cases") = False := eq_false (by decide +kernel)
@[scoped simp] theorem s_rests_image : (("rests" : Str) = "image") = False := eq_false (by decide +kernel)
@[scoped simp] theorem s_bits_skew : (("bits" : Str) = "skew") = False := eq_false (by decide +kernel)
@[scoped simp] theorem s_bits_rests : (("bits" : Str) = "rests") = False := eq_false (by decide +kernel)
@[scoped simp] theorem s_bits_table : (("bits" : Str) = "table") = False := eq_false (by decide +kernel)
@[scoped simp] theorem s_bits_joined : (("bits" : Str) = "joined") = False := eq_false (by decide +kernel)
@[scoped simp] theorem s_bits_row : (("bits" : Str) = "row") = False := eq_false (by decide +kernel)
@[scoped simp] theorem s_bits_column : (("bits" : Str) = "column") = False := eq_false (by decide +kernel)
@[scoped simp] theorem s_bits_slant : (("bits" : Str) = "slant") = False := eq_false (by decide +kernel)
@[scoped simp] theorem s_bits_back : (("bits" : Str) = "back") = False := eq_false (by decide +kernel)
@[scoped simp] theorem s_bits_block : (("bits" : Str) = "block") = False := eq_false (by decide +kernel)
@[scoped simp] theorem s_bits_step : (("bits" : Str) = "step") = False := eq_false (by decide +kernel)
@[scoped simp] theorem s_bits_cells : (("bits" : Str) = "cells") = False := eq_false (by decide +kernel)
@[scoped simp] theorem s_bits_none : (("bits" : Str) = "none") = False := eq_false (by decide +kernel)
@[scoped simp] theorem s_bits_words : (("bits" : Str) = "words") = False := eq_false (by decide +kernel)
@[scoped simp] theorem s_bits_cases : (("bits" : Str) = "cases") = False := eq_false (by decide +kernel)
@[scoped simp] theorem s_bits_image : (("bits" : Str) = "image") = False := eq_false (by decide +kernel)
@[scoped simp] theorem s_table_skew : (("table" : Str) = "skew") = False := eq_false (by decide +kernel)
@[scoped simp] theorem s_table_rests : (("table" : Str) = "rests") = False := eq_false (by decide +kernel)
@[scoped simp] theorem s_table_bits : (("table" : Str) = "bits") = False := eq_false (by decide +kernel)
@[scoped simp] theorem s_table_joined : (("table" : Str) = "joined") = False := eq_false (by decide +kernel)
@[scoped simp] theorem s_table_row : (("table" : Str) = "row") = False := eq_false (by decide +kernel)
@[scoped simp] theorem s_table_column : (("table" : Str) = "column") = False := eq_false (by decide +kernel)
@[scoped simp] theorem s_table_slant : (("table" : Str) = "slant") = False := eq_false (by decide +kernel)
@[scoped simp] theorem s_table_back : (("table" : Str) = "back") = False := eq_false (by decide +kernel)
@[scoped simp] theorem s_table_block : (("table" : Str) = "block") = False := eq_false (by decide +kernel)
@[scoped simp] theorem s_table_step : (("table" : Str) = "step") = False := eq_false (by decide +kernel)
@[scoped simp] theorem s_table_cells : (("table" : Str) = "cells") = False := eq_false (by decide +kernel)
@[scoped simp] theorem s_table_none : (("table" : Str) = "none") = False := eq_false (by decide +kernel)
@[scoped simp] theorem s_table_words : (("table" : Str) = "words") = False := eq_false (by decide +kernel)
@[scoped simp] theorem s_table_cases : (("table" : Str) = "cases") = False := eq_false (by decide +kernel)
@[scoped simp] theorem s_table_image : (("table" : Str) = "image") = False := eq_false (by decide +kernel)
@[scoped simp] theorem s_joined_skew : (("joined" : Str) = "skew") = False := eq_false (by decide +kernel)
@[scoped simp] theorem s_joined_rests : (("joined" : Str) = "rests") = False := eq_false (by decide +kernel)
@[scoped simp] theorem s_joined_bits : (("joined" : Str) = "bits") = False := eq_false (by decide +kernel)
@[scoped simp] theorem s_joined_table : (("joined" : Str) = "table") = False := eq_false (by decide +kernel)
@[scoped simp] theorem s_joined_row : (("joined" : Str) = "row") = False := eq_false (by decide +kernel)
@[scoped simp] theorem s_joined_column : (("joined" : Str) = "column") = False := eq_false (by decide +kernel)
@[scoped simp] theorem s_joined_slant : (("joined" : Str) = "slant") = False := eq_false (by decide +kernel)
@[scoped simp] theorem s_joined_back : (("joined" : Str) = "back") = False := eq_false (by decide +kernel)
@[scoped simp] theorem s_joined_block : (("joined" : Str) = "block") = False := eq_false (by decide +kernel)
@[scoped simp] theorem s_joined_step : (("joined" : Str) = "step") = False := eq_false (by decide +kernel)
@[scoped simp] theorem s_joined_cells : (("joined" : Str) = "cells") = False := eq_false (by decide +kernel)
@[scoped simp] theorem s_joined_none : (("joined" : Str) = "none") = False := eq_false (by decide +kernel)
@[scoped simp] theorem s_joined_words : (("joined" : Str) = "words") = False := eq_false (by decide +kernel)
@[scoped simp] theorem s_joined_cases : (("joined" : Str) = "cases") = False := eq_false (by decide +kernel)
@[scoped simp] theorem s_joined_image : (("joined" : Str) = "image") = False := eq_false (by decide +kernel)
@[scoped simp] theorem s_row_skew : (("row" : Str) = "skew") = False := eq_false (by decide +kernel)
@[scoped simp] theorem s_row_rests : (("row" : Str) = "rests") = False := eq_false (by decide +kernel)
@[scoped simp] theorem s_row_bits : (("row" : Str) = "bits") = False := eq_false (by decide +kernel)
@[scoped simp] theorem s_row_table : (("row" : Str) = "table") = False := eq_false (by decide +kernel)
@[scoped simp] theorem s_row_joined : (("row" : Str) = "joined") = False := eq_false (by decide +kernel)
@[scoped simp] theorem s_row_column : (("row" : Str) = "column") = False := eq_false (by decide +kernel)
@[scoped simp] theorem s_row_slant : (("row" : Str) = "slant") = False := eq_false (by decide +kernel)
@[scoped simp] theorem s_row_back : (("row" : Str) = "back") = False := eq_false (by decide +kernel)
@[scoped simp] theorem s_row_block : (("row" : Str) = "block") = False := eq_false (by decide +kernel)
@[scoped simp] theorem s_row_step : (("row" : Str) = "step") = False := eq_false (by decide +kernel)
@[scoped simp] theorem s_row_cells : (("row" : Str) = "cells") = False := eq_false (by decide +kernel)
@[scoped simp] theorem s_row_none : (("row" : Str) = "none") = False := eq_false (by decide +kernel)
@[scoped simp] theorem s_row_words : (("row" : Str) = "words") = False := eq_false (by decide +kernel)
@[scoped simp] theorem s_row_cases : (("row" : Str) = "cases") = False := eq_false (by decide +kernel)
@[scoped simp] theorem s_row_image : (("row" : Str) = "image") = False := eq_false (by decide +kernel)
@[scoped simp] theorem s_column_skew : (("column" : Str) = "skew") = False := eq_false (by decide +kernel)
@[scoped simp] theorem s_column_rests : (("column" : Str) = "rests") = False := eq_false (by decide +kernel)
@[scoped simp] theorem s_column_bits : (("column" : Str) = "bits") = False := eq_false (by decide +kernel)
@[scoped simp] theorem s_column_table : (("column" : Str) = "table") = False := eq_false (by decide +kernel)
@[scoped simp] theorem s_column_joined : (("column" : Str) = "joined") = False := eq_false (by decide +kernel)
@[scoped simp] theorem s_column_row : (("column" : Str) = "row") = False := eq_false (by decide +kernel)
@[scoped simp] theorem s_column_slant : (("column" : Str) = "slant") = False := eq_false (by decide +kernel)
@[scoped simp] theorem s_column_back : (("column" : Str) = "back") = False := eq_false (by decide +kernel)
@[scoped simp] theorem s_column_block : (("column" : Str) = "block") = False := eq_false (by decide +kernel)
@[scoped simp] theorem s_column_step : (("column" : Str) = "step") = False := eq_false (by decide +kernel)
@[scoped simp] theorem s_column_cells : (("column" : Str) = "cells") = False := eq_false (by decide +kernel)
@[scoped simp] theorem s_column_none : (("column" : Str) = "none") = False := eq_false (by decide +kernel)
@[scoped simp] theorem s_column_words : (("column" : Str) = "words") = False := eq_false (by decide +kernel)
@[scoped simp] theorem s_column_cases : (("column" : Str) = "cases") = False := eq_false (by decide +kernel)
@[scoped simp] theorem s_column_image : (("column" : Str) = "image") = False := eq_false (by decide +kernel)
@[scoped simp] theorem s_slant_skew : (("slant" : Str) = "skew") = False := eq_false (by decide +kernel)
@[scoped simp] theorem s_slant_rests : (("slant" : Str) = "rests") = False := eq_false (by decide +kernel)
@[scoped simp] theorem s_slant_bits : (("slant" : Str) = "bits") = False := eq_false (by decide +kernel)
@[scoped simp] theorem s_slant_table : (("slant" : Str) = "table") = False := eq_false (by decide +kernel)
@[scoped simp] theorem s_slant_joined : (("slant" : Str) = "joined") = False := eq_false (by decide +kernel)
@[scoped simp] theorem s_slant_row : (("slant" : Str) = "row") = False := eq_false (by decide +kernel)
@[scoped simp] theorem s_slant_column : (("slant" : Str) = "column") = False := eq_false (by decide +kernel)
@[scoped simp] theorem s_slant_back : (("slant" : Str) = "back") = False := eq_false (by decide +kernel)
@[scoped simp] theorem s_slant_block : (("slant" : Str) = "block") = False := eq_false (by decide +kernel)
@[scoped simp] theorem s_slant_step : (("slant" : Str) = "step") = False := eq_false (by decide +kernel)
@[scoped simp] theorem s_slant_cells : (("slant" : Str) = "cells") = False := eq_false (by decide +kernel)
@[scoped simp] theorem s_slant_none : (("slant" : Str) = "none") = False := eq_false (by decide +kernel)
@[scoped simp] theorem s_slant_words : (("slant" : Str) = "words") = False := eq_false (by decide +kernel)
@[scoped simp] theorem s_slant_cases : (("slant" : Str) = "cases") = False := eq_false (by decide +kernel)
@[scoped simp] theorem s_slant_image : (("slant" : Str) = "image") = False := eq_false (by decide +kernel)
@[scoped simp] theorem s_back_skew : (("back" : Str) = "skew") = False := eq_false (by decide +kernel)
@[scoped simp] theorem s_back_rests : (("back" : Str) = "rests") = False := eq_false (by decide +kernel)
@[scoped simp] theorem s_back_bits : (("back" : Str) = "bits") = False := eq_false (by decide +kernel)
@[scoped simp] theorem s_back_table : (("back" : Str) = "table") = False := eq_false (by decide +kernel)
@[scoped simp] theorem s_back_joined : (("back" : Str) = "joined") = False := eq_false (by decide +kernel)
@[scoped simp] theorem s_back_row : (("back" : Str) = "row") = False := eq_false (by decide +kernel)
@[scoped simp] theorem s_back_column : (("back" : Str) = "column") = False := eq_false (by decide +kernel)
@[scoped simp] theorem s_back_slant : (("back" : Str) = "slant") = False := eq_false (by decide +kernel)
@[scoped simp] theorem s_back_block : (("back" : Str) = "block") = False := eq_false (by decide +kernel)
@[scoped simp] theorem s_back_step : (("back" : Str) = "step") = False := eq_false (by decide +kernel)
@[scoped simp] theorem s_back_cells : (("back" : Str) = "cells") = False := eq_false (by decide +kernel)
@[scoped simp] theorem s_back_none : (("back" : Str) = "none") = False := eq_false (by decide +kernel)
@[scoped simp] theorem s_back_words : (("back" : Str) = "words") = False := eq_false (by decide +kernel)
@[scoped simp] theorem s_back_cases : (("back" : Str) = "cases") = False := eq_false (by decide +kernel)
@[scoped simp] theorem s_back_image : (("back" : Str) = "image") = False := eq_false (by decide +kernel)
@[scoped simp] theorem s_block_skew : (("block" : Str) = "skew") = False := eq_false (by decide +kernel)
@[scoped simp] theorem s_block_rests : (("block" : Str) = "rests") = False := eq_false (by decide +kernel)
@[scoped simp] theorem s_block_bits : (("block" : Str) = "bits") = False := eq_false (by decide +kernel)
@[scoped simp] theorem s_block_table : (("block" : Str) = "table") = False := eq_false (by decide +kernel)
@[scoped simp] theorem s_block_joined : (("block" : Str) = "joined") = False := eq_false (by decide +kernel)
@[scoped simp] theorem s_block_row : (("block" : Str) = "row") = False := eq_false (by decide +kernel)
@[scoped simp] theorem s_block_column : (("block" : Str) = "column") = False := eq_false (by decide +kernel)
@[scoped simp] theorem s_block_slant : (("block" : Str) = "slant") = False := eq_false (by decide +kernel)
@[scoped simp] theorem s_block_back : (("block" : Str) = "back") = False := eq_false (by decide +kernel)
@[scoped simp] theorem s_block_step : (("block" : Str) = "step") = False := eq_false (by decide +kernel)
@[scoped simp] theorem s_block_cells : (("block" : Str) = "cells") = False := eq_false (by decide +kernel)
@[scoped simp] theorem s_block_none : (("block" : Str) = "none") = False := eq_false (by decide +kernel)
@[scoped simp] theorem s_block_words : (("block" : Str) = "words") = False := eq_false (by decide +kernel)
@[scoped simp] theorem s_block_cases : (("block" : Str) = "cases") = False := eq_false (by decide +kernel)
@[scoped simp] theorem s_block_image : (("block" : Str) = "image") = False := eq_false (by decide +kernel)
@[scoped simp] theorem s_step_skew : (("step" : Str) = "skew") = False := eq_false (by decide +kernel)
@[scoped simp] theorem s_step_rests : (("step" : Str) = "rests") = False := eq_false (by decide +kernel)
@[scoped simp] theorem s_step_bits : (("step" : Str) = "bits") = False := eq_false (by decide +kernel)
@[scoped simp] theorem s_step_table : (("step" : Str) = "table") = False := eq_false (by decide +kernel)
@[scoped simp] theorem s_step_joined : (("step" : Str) = "joined") = False := eq_false (by decide +kernel)
@[scoped simp] theorem s_step_row : (("step" : Str) = "row") = False := eq_false (by decide +kernel)
@[scoped simp] theorem s_step_column : (("step" : Str) = "column") = False := eq_false (by decide +kernel)
@[scoped simp] theorem s_step_slant : (("step" : Str) = "slant") = False := eq_false (by decide +kernel)
@[scoped simp] theorem s_step_back : (("step" : Str) = "back") = False := eq_false (by decide +kernel)
@[scoped simp] theorem s_step_block : (("step" : Str) = "block") = False := eq_false (by decide +kernel)
@[scoped simp] theorem s_step_cells : (("step" : Str) = "cells") = False := eq_false (by decide +kernel)
@[scoped simp] theorem s_step_none : (("step" : Str) = "none") = False := eq_false (by decide +kernel)
@[scoped simp] theorem s_step_words : (("step" : Str) = "words") = False := eq_false (by decide +kernel)
@[scoped simp] theorem s_step_cases : (("step" : Str) = "cases") = False := eq_false (by decide +kernel)
@[scoped simp] theorem s_step_image : (("step" : Str) = "image") = False := eq_false (by decide +kernel)
@[scoped simp] theorem s_cells_skew : (("cells" : Str) = "skew") = False := eq_false (by decide +kernel)
@[scoped simp] theorem s_cells_rests : (("cells" : Str) = "rests") = False := eq_false (by decide +kernel)
@[scoped simp] theorem s_cells_bits : (("cells" : Str) = "bits") = False := eq_false (by decide +kernel)
@[scoped simp] theorem s_cells_table : (("cells" : Str) = "table") = False := eq_false (by decide +kernel)
@[scoped simp] theorem s_cells_joined : (("cells" : Str) = "joined") = False := eq_false (by decide +kernel)
@[scoped simp] theorem s_cells_row : (("cells" : Str) = "row") = False := eq_false (by decide +kernel)
@[scoped simp] theorem s_cells_column : (("cells" : Str) = "column") = False := eq_false (by decide +kernel)
@[scoped simp] theorem s_cells_slant : (("cells" : Str) = "slant") = False := eq_false (by decide +kernel)
@[scoped simp] theorem s_cells_back : (("cells" : Str) = "back") = False := eq_false (by decide +kernel)
@[scoped simp] theorem s_cells_block : (("cells" : Str) = "block") = False := eq_false (by decide +kernel)
@[scoped simp] theorem s_cells_step : (("cells" : Str) = "step") = False := eq_false (by decide +kernel)
@[scoped simp] theorem s_cells_none : (("cells" : Str) = "none") = False := eq_false (by decide +kernel)
@[scoped simp] theorem s_cells_words : (("cells" : Str) = "words") = False := eq_false (by decide +kernel)
@[scoped simp] theorem s_cells_cases : (("cells" : Str) = "cases") = False := eq_false (by decide +kernel)
@[scoped simp] theorem s_cells_image : (("cells" : Str) = "image") = False := eq_false (by decide +kernel)
@[scoped simp] theorem s_none_skew : (("none" : Str) = "skew") = False := eq_false (by decide +kernel)
@[scoped simp] theorem s_none_rests : (("none" : Str) = "rests") = False := eq_false (by decide +kernel)
@[scoped simp] theorem s_none_bits : (("none" : Str) = "bits") = False := eq_false (by decide +kernel)
@[scoped simp] theorem s_none_table : (("none" : Str) = "table") = False := eq_false (by decide +kernel)
@[scoped simp] theorem s_none_joined : (("none" : Str) = "joined") = False := eq_false (by decide +kernel)
@[scoped simp] theorem s_none_row : (("none" : Str) = "row") = False := eq_false (by decide +kernel)
@[scoped simp] theorem s_none_column : (("none" : Str) = "column") = False := eq_false (by decide +kernel)
@[scoped simp] theorem s_none_slant : (("none" : Str) = "slant") = False := eq_false (by decide +kernel)
@[scoped simp] theorem s_none_back : (("none" : Str) = "back") = False := eq_false (by decide +kernel)
@[scoped simp] theorem s_none_block : (("none" : Str) = "block") = False := eq_false (by decide +kernel)
@[scoped simp] theorem s_none_step : (("none" : Str) = "step") = False := eq_false (by decide +kernel)
@[scoped simp] theorem s_none_cells : (("none" : Str) = "cells") = False := eq_false (by decide +kernel)
@[scoped simp] theorem s_none_words : (("none" : Str) = "words") = False := eq_false (by decide +kernel)
@[scoped simp] theorem s_none_cases : (("none" : Str) = "cases") = False := eq_false (by decide +kernel)
@[scoped simp] theorem s_none_image : (("none" : Str) = "image") = False := eq_false (by decide +kernel)
@[scoped simp] theorem s_words_skew : (("words" : Str) = "skew") = False := eq_false (by decide +kernel)
@[scoped simp] theorem s_words_rests : (("words" : Str) = "rests") = False := eq_false (by decide +kernel)
@[scoped simp] theorem s_words_bits : (("words" : Str) = "bits") = False := eq_false (by decide +kernel)
@[scoped simp] theorem s_words_table : (("words" : Str) = "table") = False := eq_false (by decide +kernel)
@[scoped simp] theorem s_words_joined : (("words" : Str) = "joined") = False := eq_false (by decide +kernel)
@[scoped simp] theorem s_words_row : (("words" : Str) = "row") = False := eq_false (by decide +kernel)
@[scoped simp] theorem s_words_column : (("words" : Str) = "column") = False := eq_false (by decide +kernel)
@[scoped simp] theorem s_words_slant : (("words" : Str) = "slant") = False := eq_false (by decide +kernel)
@[scoped simp] theorem s_words_back : (("words" : Str) = "back") = False := eq_false (by decide +kernel)
@[scoped simp] theorem s_words_block : (("words" : Str) = "block") = False := eq_false (by decide +kernel)
@[scoped simp] theorem s_words_step : (("words" : Str) = "step") = False := eq_false (by decide +kernel)
@[scoped simp] theorem s_words_cells : (("words" : Str) = "cells") = False := eq_false (by decide +kernel)
@[scoped simp] theorem s_words_none : (("words" : Str) = "none") = False := eq_false (by decide +kernel)
@[scoped simp] theorem s_words_cases : (("words" : Str) = "cases") = False := eq_false (by decide +kernel)
@[scoped simp] theorem s_words_image : (("words" : Str) = "image") = False := eq_false (by decide +kernel)
@[scoped simp] theorem s_cases_skew : (("cases" : Str) = "skew") = False := eq_false (by decide +kernel)
@[scoped simp] theorem s_cases_rests : (("cases" : Str) = "rests") = False := eq_false (by decide +kernel)
@[scoped simp] theorem s_cases_bits : (("cases" : Str) = "bits") = False := eq_false (by decide +kernel)
@[scoped simp] theorem s_cases_table : (("cases" : Str) = "table") = False := eq_false (by decide +kernel)
@[scoped simp] theorem s_cases_joined : (("cases" : Str) = "joined") = False := eq_false (by decide +kernel)
@[scoped simp] theorem s_cases_row : (("cases" : Str) = "row") = False := eq_false (by decide +kernel)
@[scoped simp] theorem s_cases_column : (("cases" : Str) = "column") = False := eq_false (by decide +kernel)
@[scoped simp] theorem s_cases_slant : (("cases" : Str) = "slant") = False := eq_false (by decide +kernel)
@[scoped simp] theorem s_cases_back : (("cases" : Str) = "back") = False := eq_false (by decide +kernel)
@[scoped simp] theorem s_cases_block : (("cases" : Str) = "block") = False := eq_false (by decide +kernel)
@[scoped simp] theorem s_cases_step : (("cases" : Str) = "step") = False := eq_false (by decide +kernel)
@[scoped simp] theorem s_cases_cells : (("cases" : Str) = "cells") = False := eq_false (by decide +kernel)
@[scoped simp] theorem s_cases_none : (("cases" : Str) = "none") = False := eq_false (by decide +kernel)
@[scoped simp] theorem s_cases_words : (("cases" : Str) = "words") = False := eq_false (by decide +kernel)
@[scoped simp] theorem s_cases_image : (("cases" : Str) = "image") = False := eq_false (by decide +kernel)
@[scoped simp] theorem s_image_skew : (("image" : Str) = "skew") = False := eq_false (by decide +kernel)
@[scoped simp] theorem s_image_rests : (("image" : Str) = "rests") = False := eq_false (by decide +kernel)
@[scoped simp] theorem s_image_bits : (("image" : Str) = "bits") = False := eq_false (by decide +kernel)
@[scoped simp] theorem s_image_table : (("image" : Str) = "table") = False := eq_false (by decide +kernel)
@[scoped simp] theorem s_image_joined : (("image" : Str) = "joined") = False := eq_false (by decide +kernel)
@[scoped simp] theorem s_image_row : (("image" : Str) = "row") = False := eq_false (by decide +kernel)
@[scoped simp] theorem s_image_column : (("image" : Str) = "column") = False := eq_false (by decide +kernel)
@[scoped simp] theorem s_image_slant : (("image" : Str) = "slant") = False := eq_false (by decide +kernel)
@[scoped simp] theorem s_image_back : (("image" : Str) = "back") = False := eq_false (by decide +kernel)
@[scoped simp] theorem s_image_block : (("image" : Str) = "block") = False := eq_false (by decide +kernel)
@[scoped simp] theorem s_image_step : (("image" : Str) = "step") = False := eq_false (by decide +kernel)
@[scoped simp] theorem s_image_cells : (("image" : Str) = "cells") = False := eq_false (by decide +kernel)
@[scoped simp] theorem s_image_none : (("image" : Str) = "none") = False := eq_false (by decide +kernel)
@[scoped simp] theorem s_image_words : (("image" : Str) = "words") = False := eq_false (by decide +kernel)
@[scoped simp] theorem s_image_cases : (("image" : Str) = "cases") = False := eq_false (by decide +kernel)
end Ev
end BW

namespace BW
open PySem PySem.Spec PyProof.Rows L2
open scoped BW.Ev
/-! BwV1: the scripts' draws. -/
/-- 90: mix -/
def bd_90 : Sms := (.cons (.asg 0 2 (.bin .mod (.bin .mul (.bin .add (.bin .add (.bin .mod (.var 0) (.int 2147483629)) (.bin .mul (.bin .mul (.var 1) (.var 1)) (.int 7919))) (.int 11)) (.int 48271)) (.int 2147483647))) (.cons (.ret (.bin .mod (.bin .mul (.var 2) (.var 2)) (.int 1999999973))) .nil))
def m_90 : MDef := ⟨2, 3, 0, bd_90⟩
class C_90 (T : Tab) : Prop where
  h_90 : T 90 = some m_90
theorem q_90 {T : Tab} {G : Nat → D} {n : Nat} [C_90 T] {a0 a1 : R} : callN T G (n + 1) 90 [a0, a1] = bnd (evSs (callN T G n) G (ownT T) bd_90 [a0, a1, .un]) (endOf 2) := by
  rw [callN_at (C_90.h_90 (T := T))]
  rfl
@[scoped simp] theorem Ev.own_90 {T : Tab} [C_90 T] : ownT T 90 = 0 := ownT_at (C_90.h_90 (T := T))
/-- 91: left -/
def bd_91 : Sms := (.cons (.asg 0 2 (.ite (.cmp .lt (.var 1) (.slen 0)) (.sidx 0 (.var 1)) (.int 0))) (.cons (.asg 0 3 (.ite (.cmp .ge (.blt .abs (.var 2)) (.bin .pow (.int 10) (.int 18))) (.blt .abs (.var 2)) (.int 0))) (.cons (.ret (.lst (.cons (.var 3) (.cons (.bin .add (.var 2) (.bin .mul (.int 1000003) (.var 1))) (.cons (.int 0) .nil))))) .nil)))
def m_91 : MDef := ⟨2, 4, 1, bd_91⟩
class C_91 (T : Tab) : Prop where
  h_91 : T 91 = some m_91
theorem q_91 {T : Tab} {G : Nat → D} {n : Nat} [C_91 T] {a0 a1 : R} : callN T G (n + 1) 91 [a0, a1] = bnd (evSs (callN T G n) G (ownT T) bd_91 [a0, a1, .un, .un]) (endOf 2) := by
  rw [callN_at (C_91.h_91 (T := T))]
  rfl
@[scoped simp] theorem Ev.own_91 {T : Tab} [C_91 T] : ownT T 91 = 1 := ownT_at (C_91.h_91 (T := T))
/-- 92: pick -/
def bd_92 : Sms := (.cons (.seti 0 [] (.int 2) (.bin .add (.idx (.var 0) (.int 2)) (.int 1))) (.cons (.ite (.cmp .gt (.idx (.var 0) (.int 0)) (.int 0)) (.cons (.asg 0 2 (.bin .mod (.idx (.var 0) (.int 0)) (.var 1))) (.cons (.seti 0 [] (.int 0) (.bin .fdiv (.idx (.var 0) (.int 0)) (.var 1))) (.cons (.ret (.var 2)) .nil))) .nil [2]) (.cons (.ret (.bin .mod (.bin .fdiv (.call 90 (.cons (.call 90 (.cons (.idx (.var 0) (.int 1)) (.cons (.idx (.var 0) (.int 2)) .nil))) (.cons (.bin .add (.idx (.var 0) (.int 2)) (.int 64)) .nil))) (.int 64)) (.var 1))) .nil)))
def m_92 : MDef := ⟨2, 3, 0, bd_92⟩
class C_92 (T : Tab) : Prop extends C_90 T where
  h_92 : T 92 = some m_92
theorem q_92 {T : Tab} {G : Nat → D} {n : Nat} [C_92 T] {a0 a1 : R} : callN T G (n + 1) 92 [a0, a1] = bnd (evSs (callN T G n) G (ownT T) bd_92 [a0, a1, .un]) (endOf 2) := by
  rw [callN_at (C_92.h_92 (T := T))]
  rfl
@[scoped simp] theorem Ev.own_92 {T : Tab} [C_92 T] : ownT T 92 = 0 := ownT_at (C_92.h_92 (T := T))
def mix (c k : Int) : Int :=
  let m := (c % 2147483629 + k * k * 7919 + 11) * 48271 % 2147483647
  m * m % 1999999973
theorem ix_W {m : Nat} {v : Int} {Q : Nat → Prop} (h0 : 0 ≤ v) (h1 : v < m) (k : ∀ j : Nat, (j : Int) = v → j < m → Q j) : W (ixN m v) Q :=
  .of (ixN_int h0 h1) (k _ (Int.toNat_of_nonneg h0) (by omega))
theorem get_W {α : Type} {l : List α} {j : Nat} {Q : α → Prop} (P : α → Prop) (h : j < l.length) (hP : ∀ x ∈ l, P x) (k : ∀ x, P x → Q x) : W (l[j]?) Q :=
  .of (List.getElem?_eq_getElem h) (k _ (hP _ (List.getElem_mem h)))
/-- one of a list by a drawn number -/
theorem ixl_W {l : List D} {v : Int} {Q : D → Prop} (P : D → Prop) (h0 : 0 ≤ v) (h1 : v < l.length) (hP : ∀ x ∈ l, P x) (k : ∀ x, P x → Q x) : W (ixD l v) Q := by
  rw [ixD_int h0 h1]
  exact get_W P (by omega) hP k
theorem ixi_W {l : List D} {v : Int} {Q : D → Prop} (lo hi : Int) (h0 : 0 ≤ v) (h1 : v < l.length) (hP : ∀ x ∈ l, ∃ w, x = .int w ∧ lo ≤ w ∧ w ≤ hi) (k : ∀ w, lo ≤ w → w ≤ hi → Q (.int w)) : W (ixD l v) Q :=
  ixl_W _ h0 h1 hP fun x ⟨w, e, a, b⟩ => e ▸ k w a b
section
variable {T : Tab} {G : Nat → D} {n : Nat}
theorem ev_mix [C_90 T] {c k : Int} (hk : -(2 ^ 31) < k ∧ k < 2 ^ 31) : callN T G (n + 1) 90 [.val (.int c), .val (.int k)] = some (.int (mix c k), [.un, .un]) := by
  have h1 : (0 : Int) ≤ c % 2147483629 := Int.emod_nonneg _ (by decide)
  have h2 : c % 2147483629 < 2147483629 := Int.emod_lt_of_pos _ (by decide)
  have hk' : sml k := ⟨by omega, by omega⟩
  have h3 : 0 ≤ (c % 2147483629 + k * k * 7919 + 11) * 48271 % 2147483647 := Int.emod_nonneg _ (by decide)
  have h4 : (c % 2147483629 + k * k * 7919 + 11) * 48271 % 2147483647 < 2147483647 := Int.emod_lt_of_pos _ (by decide)
  have h5 : sml ((c % 2147483629 + k * k * 7919 + 11) * 48271 % 2147483647) := ⟨by omega, by omega⟩
  rw [q_90]
  simp [bd_90, hk', h5]
  simp [mix]
/-- the state of the draws: what is left of the number, the seed, the count -/
def LSd (d : D) (b : Nat) : Prop := ∃ o s c : Int, d = .list [.int o, .int s, .int c] ∧ 0 ≤ c ∧ c ≤ b
theorem LSd.mono {d : D} {b b' : Nat} (h : LSd d b) (hb : b ≤ b') : LSd d b' := by
  obtain ⟨o, s, c, e, h1, h2⟩ := h
  exact ⟨o, s, c, e, h1, by omega⟩
theorem ixn0 {m : Nat} : ixN (m + 1) 0 = some 0 := ixN_nat' (k := 0) (by omega)
theorem pick_W [C_92 T] {d : D} {b : Nat} {m : Int} {Q : D × List R → Prop} (h : LSd d b) (hb : b < 100000000) (hm : 0 < m) (hm2 : m < 1073741824)
    (k : ∀ v d', 0 ≤ v → v < m → LSd d' (b + 1) → Q (.int v, [.io 1 d', .un])) : W (callN T G (n + 2) 92 [.io 1 d, .val (.int m)]) Q := by
  obtain ⟨o, s, c, rfl, h1, h2⟩ := h
  rw [q_92]
  simp [bd_92, hm, hm2]
  refine .cnd (fun ho => ?_) fun ho => ?_
  · simp at ho
    simp [ho, hm, hm2]
    exact k _ _ (Int.emod_nonneg _ (by omega)) (Int.emod_lt_of_pos _ hm) ⟨_, _, _, rfl, by omega, by omega⟩
  · simp at ho
    simp
    rw [ev_mix ⟨by omega, by omega⟩]
    simp
    rw [ev_mix ⟨by omega, by omega⟩]
    simp [hm]
    exact k _ _ (Int.emod_nonneg _ (by omega)) (Int.emod_lt_of_pos _ hm) ⟨_, _, _, rfl, by omega, by omega⟩
theorem left_W [C_91 T] {l : List Int} {i : Nat} {Q : D × List R → Prop} (hi : i < 1000000) (k : ∀ d, LSd d 0 → Q (d, [.un, .un])) : W (callN T G (n + 1) 91 [.scr l, .val (.int i)]) Q := by
  rw [q_91]
  simp [bd_91]
  refine .cnd (fun h => ?_) fun h => ?_
  · simp at h
    simp [atI, ixN, h]
    refine .cnd (fun h => ?_) fun h => ?_ <;> simp <;> exact k _ ⟨_, _, _, rfl, by omega, by omega⟩
  · simp
    exact k _ ⟨_, _, _, rfl, by omega, by omega⟩
end
end BW

namespace BW
open PySem PySem.Spec PyProof.Rows L2
open scoped BW.Ev
/-! BwM1: dealings, their sizes and banks: plain mathematics. -/
/-- how many bits are set -/
def pc (x : Nat) : Nat := if h : x = 0 then 0 else x % 2 + pc (x / 2)
termination_by x
decreasing_by omega
theorem pc_zero : pc 0 = 0 := by rw [pc]; rfl
theorem pc_half (x : Nat) : pc x = x % 2 + pc (x / 2) := by
  by_cases h : x = 0
  · subst h
    rw [show 0 % 2 = 0 from rfl, show 0 / 2 = 0 from rfl, pc_zero]
  · rw [pc, dif_neg h]
theorem and_bit (x y : Nat) : (x &&& y) % 2 = x % 2 * (y % 2) := by
  have := Nat.and_mod_two_pow (a := x) (b := y) (n := 1)
  rw [Nat.pow_one] at this
  rw [this]
  rcases Nat.mod_two_eq_zero_or_one x with h | h <;> rcases Nat.mod_two_eq_zero_or_one y with h2 | h2 <;> rw [h, h2] <;> rfl
theorem and_half (x y : Nat) : (x &&& y) / 2 = x / 2 &&& y / 2 := Nat.and_div_two
/-- the least bit dropped -/
theorem pc_drop : ∀ (x : Nat), 0 < x → pc (x &&& (x - 1)) + 1 = pc x ∧ (x &&& (x - 1)) < x := by
  intro x
  induction x using Nat.strongRecOn with
  | ind x ih =>
    intro hx
    rcases Nat.mod_two_eq_zero_or_one x with h | h
    · have h2 : 0 < x / 2 := by omega
      obtain ⟨i1, i2⟩ := ih (x / 2) (by omega) h2
      have e1 : (x - 1) / 2 = x / 2 - 1 := by omega
      have a1 := and_bit x (x - 1)
      have a2 := and_half x (x - 1)
      rw [e1] at a2
      rw [h, Nat.zero_mul] at a1
      refine ⟨?_, by omega⟩
      rw [pc_half (x &&& (x - 1)), a1, a2, pc_half x, h]
      omega
    · have e1 : (x - 1) / 2 = x / 2 := by omega
      have e2 : (x - 1) % 2 = 0 := by omega
      have a1 := and_bit x (x - 1)
      have a2 := and_half x (x - 1)
      rw [e1, Nat.and_self] at a2
      rw [e2, Nat.mul_zero] at a1
      refine ⟨?_, by omega⟩
      rw [pc_half (x &&& (x - 1)), a1, a2, pc_half x, h]
      omega
theorem pc_le : ∀ x : Nat, pc x ≤ x := by
  intro x
  induction x using Nat.strongRecOn with
  | ind x ih =>
    by_cases h : x = 0
    · subst h
      rw [pc_zero]
      exact Nat.le_refl _
    · have := ih (x / 2) (by omega)
      rw [pc_half]
      omega
theorem band_nat (x y : Nat) : Builtin.bitAnd (x : Int) (y : Int) = ((x &&& y : Nat) : Int) := by
  unfold Builtin.bitAnd
  simp
/-- the bank by masks: bit t is the parity under mask t -/
def bm (x : Nat) : List Nat → Nat
  | [] => 0
  | m :: ms => pc (x &&& m) % 2 + 2 * bm x ms
theorem bm_lt (x : Nat) : ∀ ms : List Nat, bm x ms < 2 ^ ms.length
  | [] => by simp [bm]
  | m :: ms => by
    have := bm_lt x ms
    simp only [bm, List.length_cons, Nat.pow_succ]
    omega
inductive Deal | skew (r c k x y : Int) | rests (r c k p : Int) | bits (h l : Nat) (ms : List Nat) | table (k : Int) (rows : List (List Int)) | joined (a b : Deal)
def rowD (r : List Int) : D := .tuple (r.map .int)
def rowsD (rows : List (List Int)) : D := .tuple (rows.map rowD)
def masksD (ms : List Nat) : D := .tuple (ms.map fun m => PyData.int (m : Nat))
namespace Deal
def enc : Deal → D
  | .skew r c k x y => .tuple [.str "skew", .int r, .int c, .int k, .int x, .int y]
  | .rests r c k p => .tuple [.str "rests", .int r, .int c, .int k, .int p]
  | .bits h l ms => .tuple [.str "bits", .int (h : Nat), .int (l : Nat), masksD ms]
  | .table k rows => .tuple [.str "table", .int k, rowsD rows]
  | .joined a b => .tuple [.str "joined", a.enc, b.enc]
def nr : Deal → Int
  | .skew r _ _ _ _ => r
  | .rests r _ _ _ => r
  | .bits h _ _ => 2 ^ h
  | .table _ rows => rows.length
  | .joined a b => a.nr * b.nr
def nc : Deal → Int
  | .skew _ c _ _ _ => c
  | .rests _ c _ _ => c
  | .bits _ l _ => 2 ^ l
  | .table _ rows => (rows.headD []).length
  | .joined a b => a.nc * b.nc
def nb : Deal → Int
  | .skew _ _ k _ _ => k
  | .rests _ _ k _ => k
  | .bits _ _ ms => 2 ^ ms.length
  | .table k _ => k
  | .joined a b => a.nb * b.nb
def dep : Deal → Nat
  | .joined a b => max a.dep b.dep + 1
  | _ => 0
def bank : Deal → Int → Int → Int
  | .skew _ _ k x y, i, j => (x * i + y * j) % k
  | .rests _ c k _, i, j => (i * c + j) % k
  | .bits _ l ms, i, j => bm (i * 2 ^ l + j).toNat ms
  | .table _ rows, i, j => ((rows[i.toNat]?.getD [])[j.toNat]?).getD 0
  | .joined a b, i, j => a.bank (i / b.nr) (j / b.nc) * b.nb + b.bank (i % b.nr) (j % b.nc)
/-- what a dealing is -/
def Ok : Deal → Prop
  | .skew r c k x y => 1 ≤ r ∧ 1 ≤ c ∧ 1 ≤ k ∧ 0 ≤ x ∧ 0 ≤ y
  | .rests r c k p => 1 ≤ r ∧ 1 ≤ c ∧ 1 ≤ k ∧ 1 ≤ p ∧ Int.gcd k p = 1 ∧ r * c ≤ k * p
  | .bits h l ms => ∀ m ∈ ms, m < 2 ^ (h + l)
  | .table k rows => 1 ≤ k ∧ rows ≠ [] ∧ rows.headD [] ≠ [] ∧ ∀ r ∈ rows, r.length = (rows.headD []).length ∧ ∀ x ∈ r, 0 ≤ x ∧ x < k
  | .joined a b => a.Ok ∧ b.Ok
/-- none of its numbers is great -/
def Sm : Deal → Prop
  | .skew r c k x y => r ≤ 1048576 ∧ c ≤ 1048576 ∧ k ≤ 1048576 ∧ x ≤ 1048576 ∧ y ≤ 1048576
  | .rests r c k p => r ≤ 1048576 ∧ c ≤ 1048576 ∧ k ≤ 1048576 ∧ p ≤ 1048576
  | .bits h l ms => h + l ≤ 20 ∧ ms.length ≤ 20
  | .table k rows => k ≤ 1048576 ∧ rows.length ≤ 1048576 ∧ (rows.headD []).length ≤ 1048576
  | .joined a b => a.Sm ∧ b.Sm ∧ a.nr * b.nr ≤ 1048576 ∧ a.nc * b.nc ≤ 1048576 ∧ a.nb * b.nb ≤ 1048576
/-- .. and the law's own look may be had at it -/
def Tight : Deal → Prop
  | .bits h l ms => h + l ≤ 9 ∧ ms.length ≤ 5 ∧ h ≤ 5 ∧ l ≤ 5
  | .joined a b => a.Tight ∧ b.Tight
  | _ => True
/-- what the draws give -/
structure Good (d : Deal) : Prop where
  ok : d.Ok
  sm : d.Sm
  dp : d.dep ≤ 3
theorem two_pos (n : Nat) : (1 : Int) ≤ 2 ^ n := Int.pow_pos (by decide)
theorem two_le {n m : Nat} (h : n ≤ m) : (2 : Int) ^ n ≤ 2 ^ m := by
  have := Nat.pow_le_pow_right (n := 2) (by decide) h
  exact_mod_cast this
theorem pos : ∀ {d : Deal}, d.Ok → 1 ≤ d.nr ∧ 1 ≤ d.nc ∧ 1 ≤ d.nb
  | .skew .., h => ⟨h.1, h.2.1, h.2.2.1⟩
  | .rests .., h => ⟨h.1, h.2.1, h.2.2.1⟩
  | .bits h l ms, _ => ⟨two_pos _, two_pos _, two_pos _⟩
  | .table k rows, ⟨h1, h2, h3, h4⟩ => by
    have := List.length_pos_iff.mpr h2
    have := List.length_pos_iff.mpr h3
    exact ⟨by simp only [nr]; omega, by simp only [nc]; omega, h1⟩
  | .joined a b, ⟨h1, h2⟩ => by
    have p := pos h1
    have q := pos h2
    exact ⟨Int.mul_pos p.1 q.1, Int.mul_pos p.2.1 q.2.1, Int.mul_pos p.2.2 q.2.2⟩
theorem le : ∀ {d : Deal}, d.Sm → d.nr ≤ 1048576 ∧ d.nc ≤ 1048576 ∧ d.nb ≤ 1048576
  | .skew .., h => ⟨h.1, h.2.1, h.2.2.1⟩
  | .rests .., h => ⟨h.1, h.2.1, h.2.2.1⟩
  | .bits h l ms, ⟨h1, h2⟩ => ⟨two_le (m := 20) (by omega), two_le (m := 20) (by omega), two_le (m := 20) h2⟩
  | .table k rows, ⟨h1, h2, h3⟩ => ⟨by simp only [nr]; omega, by simp only [nc]; omega, h1⟩
  | .joined a b, ⟨_, _, h1, h2, h3⟩ => ⟨h1, h2, h3⟩
theorem bank_lt : ∀ {d : Deal} {i j : Int}, d.Ok → 0 ≤ i → i < d.nr → 0 ≤ j → j < d.nc → 0 ≤ d.bank i j ∧ d.bank i j < d.nb
  | .skew r c k x y, i, j, h, _, _, _, _ => ⟨Int.emod_nonneg _ (by have := h.2.2.1; omega), Int.emod_lt_of_pos _ h.2.2.1⟩
  | .rests r c k p, i, j, h, _, _, _, _ => ⟨Int.emod_nonneg _ (by have := h.2.2.1; omega), Int.emod_lt_of_pos _ h.2.2.1⟩
  | .bits h l ms, i, j, _, _, _, _, _ => by
    refine ⟨Int.natCast_nonneg _, ?_⟩
    have := bm_lt (i * 2 ^ l + j).toNat ms
    simp only [bank, nb]
    exact_mod_cast this
  | .table k rows, i, j, ⟨h1, h2, h3, h4⟩, i0, i1, j0, j1 => by
    have i1' : i < rows.length := i1
    have j1' : j < (rows.headD []).length := j1
    have hi : i.toNat < rows.length := by omega
    have hr := List.getElem?_eq_getElem hi
    have hl := h4 _ (List.getElem_mem hi)
    have hj : j.toNat < rows[i.toNat].length := by omega
    have hc := List.getElem?_eq_getElem hj
    simp only [bank, nb]
    rw [hr, Option.getD_some, hc, Option.getD_some]
    exact hl.2 _ (List.getElem_mem hj)
  | .joined a b, i, j, ⟨h1, h2⟩, i0, i1, j0, j1 => by
    have p := pos h2
    have i1' : i < a.nr * b.nr := i1
    have j1' : j < a.nc * b.nc := j1
    have q1 := bank_lt (i := i / b.nr) (j := j / b.nc) h1 (Int.ediv_nonneg i0 (by omega)) (Int.ediv_lt_of_lt_mul (by omega) i1') (Int.ediv_nonneg j0 (by omega)) (Int.ediv_lt_of_lt_mul (by omega) j1')
    have q2 := bank_lt (i := i % b.nr) (j := j % b.nc) h2 (Int.emod_nonneg _ (by omega)) (Int.emod_lt_of_pos _ (by omega)) (Int.emod_nonneg _ (by omega)) (Int.emod_lt_of_pos _ (by omega))
    simp only [bank, nb]
    have := Int.mul_nonneg q1.1 (show 0 ≤ b.nb by omega)
    have e : (a.bank (i / b.nr) (j / b.nc) + 1) * b.nb ≤ a.nb * b.nb := Int.mul_le_mul_of_nonneg_right (by omega) (by omega)
    rw [Int.add_mul] at e
    omega
theorem Good.pos {d : Deal} (g : d.Good) : 1 ≤ d.nr ∧ 1 ≤ d.nc ∧ 1 ≤ d.nb := Deal.pos g.ok
theorem Good.le {d : Deal} (g : d.Good) : d.nr ≤ 1048576 ∧ d.nc ≤ 1048576 ∧ d.nb ≤ 1048576 := Deal.le g.sm
end Deal
end BW

namespace BW
open PySem PySem.Spec PyProof.Rows L2
open scoped BW.Ev
/-! BwV2: the program's dealings: sizes, banks, words. -/
/-- 0: is_whole -/
def bd_0 : Sms := (.cons (.ret (.and (.cons (.isi (.var 0) [.int] true) (.cons (.not (.isi (.var 0) [.bool] true)) (.cons (.cmp .ge (.var 0) (.var 1)) .nil))))) .nil)
def m_0 : MDef := ⟨2, 2, 0, bd_0⟩
class C_0 (T : Tab) : Prop where
  h_0 : T 0 = some m_0
theorem q_0 {T : Tab} {G : Nat → D} {n : Nat} [C_0 T] {a0 a1 : R} : callN T G (n + 1) 0 [a0, a1] = bnd (evSs (callN T G n) G (ownT T) bd_0 [a0, a1]) (endOf 2) := by
  rw [callN_at (C_0.h_0 (T := T))]
  rfl
@[scoped simp] theorem Ev.own_0 {T : Tab} [C_0 T] : ownT T 0 = 0 := ownT_at (C_0.h_0 (T := T))
/-- 1: are_whole -/
def bd_1 : Sms := (.cons (.ret (.blt .all (.comp (.call 0 (.cons (.var 2) (.cons (.var 1) .nil))) (.var 2) (.seq (.var 0)) .nil [2]))) .nil)
def m_1 : MDef := ⟨2, 3, 0, bd_1⟩
class C_1 (T : Tab) : Prop extends C_0 T where
  h_1 : T 1 = some m_1
theorem q_1 {T : Tab} {G : Nat → D} {n : Nat} [C_1 T] {a0 a1 : R} : callN T G (n + 1) 1 [a0, a1] = bnd (evSs (callN T G n) G (ownT T) bd_1 [a0, a1, .un]) (endOf 2) := by
  rw [callN_at (C_1.h_1 (T := T))]
  rfl
@[scoped simp] theorem Ev.own_1 {T : Tab} [C_1 T] : ownT T 1 = 0 := ownT_at (C_1.h_1 (T := T))
/-- 3: power_of_two -/
def bd_3 : Sms := (.cons (.asg 0 1 (.int 1)) (.cons (.for_ (.var 2) (.rng (.var 0)) (.cons (.asg 0 1 (.bin .mul (.var 1) (.int 2))) .nil) [2]) (.cons (.ret (.var 1)) .nil)))
def m_3 : MDef := ⟨1, 3, 0, bd_3⟩
class C_3 (T : Tab) : Prop where
  h_3 : T 3 = some m_3
theorem q_3 {T : Tab} {G : Nat → D} {n : Nat} [C_3 T] {a0 : R} : callN T G (n + 1) 3 [a0] = bnd (evSs (callN T G n) G (ownT T) bd_3 [a0, .un, .un]) (endOf 1) := by
  rw [callN_at (C_3.h_3 (T := T))]
  rfl
@[scoped simp] theorem Ev.own_3 {T : Tab} [C_3 T] : ownT T 3 = 0 := ownT_at (C_3.h_3 (T := T))
/-- 10: size_of -/
def bd_10 : Sms := (.cons (.asg 0 1 (.idx (.var 0) (.int 0))) (.cons (.ite (.or (.cons (.cmp .eq (.var 1) (.str (("skew" : PySem.Str)))) (.cons (.cmp .eq (.var 1) (.str (("rests" : PySem.Str)))) .nil))) (.cons (.ret (.tup (.cons (.idx (.var 0) (.int 1)) (.cons (.idx (.var 0) (.int 2)) (.cons (.idx (.var 0) (.int 3)) .nil))))) .nil) .nil []) (.cons (.ite (.cmp .eq (.var 1) (.str (("bits" : PySem.Str)))) (.cons (.ret (.tup (.cons (.call 3 (.cons (.idx (.var 0) (.int 1)) .nil)) (.cons (.call 3 (.cons (.idx (.var 0) (.int 2)) .nil)) (.cons (.call 3 (.cons (.blt .len (.idx (.var 0) (.int 3))) .nil)) .nil))))) .nil) .nil []) (.cons (.ite (.cmp .eq (.var 1) (.str (("table" : PySem.Str)))) (.cons (.ret (.tup (.cons (.blt .len (.idx (.var 0) (.int 2))) (.cons (.blt .len (.idx (.idx (.var 0) (.int 2)) (.int 0))) (.cons (.idx (.var 0) (.int 1)) .nil))))) .nil) .nil []) (.cons (.asgT (.cons (.var 2) (.cons (.var 3) (.cons (.var 4) .nil))) (.call 10 (.cons (.idx (.var 0) (.int 1)) .nil))) (.cons (.asgT (.cons (.var 5) (.cons (.var 6) (.cons (.var 7) .nil))) (.call 10 (.cons (.idx (.var 0) (.int 2)) .nil))) (.cons (.ret (.tup (.cons (.bin .mul (.var 2) (.var 5)) (.cons (.bin .mul (.var 3) (.var 6)) (.cons (.bin .mul (.var 4) (.var 7)) .nil))))) .nil)))))))
def m_10 : MDef := ⟨1, 8, 0, bd_10⟩
class C_10 (T : Tab) : Prop extends C_3 T where
  h_10 : T 10 = some m_10
theorem q_10 {T : Tab} {G : Nat → D} {n : Nat} [C_10 T] {a0 : R} : callN T G (n + 1) 10 [a0] = bnd (evSs (callN T G n) G (ownT T) bd_10 [a0, .un, .un, .un, .un, .un, .un, .un]) (endOf 1) := by
  rw [callN_at (C_10.h_10 (T := T))]
  rfl
@[scoped simp] theorem Ev.own_10 {T : Tab} [C_10 T] : ownT T 10 = 0 := ownT_at (C_10.h_10 (T := T))
/-- 11: bits_in -/
def bd_11 : Sms := (.cons (.asg 0 1 (.int 0)) (.cons (.whl (.cmp .gt (.var 0) (.int 0)) (.cons (.asg 0 0 (.bin .band (.var 0) (.bin .sub (.var 0) (.int 1)))) (.cons (.aug 1 (.int 1)) .nil)) []) (.cons (.ret (.var 1)) .nil)))
def m_11 : MDef := ⟨1, 2, 0, bd_11⟩
class C_11 (T : Tab) : Prop where
  h_11 : T 11 = some m_11
theorem q_11 {T : Tab} {G : Nat → D} {n : Nat} [C_11 T] {a0 : R} : callN T G (n + 1) 11 [a0] = bnd (evSs (callN T G n) G (ownT T) bd_11 [a0, .un]) (endOf 1) := by
  rw [callN_at (C_11.h_11 (T := T))]
  rfl
@[scoped simp] theorem Ev.own_11 {T : Tab} [C_11 T] : ownT T 11 = 0 := ownT_at (C_11.h_11 (T := T))
/-- 12: bank_by_masks -/
def bd_12 : Sms := (.cons (.asg 0 2 (.int 0)) (.cons (.asg 0 3 (.int 1)) (.cons (.for_ (.var 4) (.seq (.var 1)) (.cons (.aug 2 (.bin .mul (.var 3) (.bin .mod (.call 11 (.cons (.bin .band (.var 0) (.var 4)) .nil)) (.int 2)))) (.cons (.asg 0 3 (.bin .mul (.var 3) (.int 2))) .nil)) [4]) (.cons (.ret (.var 2)) .nil))))
def m_12 : MDef := ⟨2, 5, 0, bd_12⟩
class C_12 (T : Tab) : Prop extends C_11 T where
  h_12 : T 12 = some m_12
theorem q_12 {T : Tab} {G : Nat → D} {n : Nat} [C_12 T] {a0 a1 : R} : callN T G (n + 1) 12 [a0, a1] = bnd (evSs (callN T G n) G (ownT T) bd_12 [a0, a1, .un, .un, .un]) (endOf 2) := by
  rw [callN_at (C_12.h_12 (T := T))]
  rfl
@[scoped simp] theorem Ev.own_12 {T : Tab} [C_12 T] : ownT T 12 = 0 := ownT_at (C_12.h_12 (T := T))
/-- 13: bank_at -/
def bd_13 : Sms := (.cons (.asg 0 3 (.idx (.var 0) (.int 0))) (.cons (.ite (.cmp .eq (.var 3) (.str (("skew" : PySem.Str)))) (.cons (.ret (.bin .mod (.bin .add (.bin .mul (.idx (.var 0) (.int 4)) (.var 1)) (.bin .mul (.idx (.var 0) (.int 5)) (.var 2))) (.idx (.var 0) (.int 3)))) .nil) .nil []) (.cons (.ite (.cmp .eq (.var 3) (.str (("rests" : PySem.Str)))) (.cons (.ret (.bin .mod (.bin .add (.bin .mul (.var 1) (.idx (.var 0) (.int 2))) (.var 2)) (.idx (.var 0) (.int 3)))) .nil) .nil []) (.cons (.ite (.cmp .eq (.var 3) (.str (("bits" : PySem.Str)))) (.cons (.ret (.call 12 (.cons (.bin .add (.bin .mul (.var 1) (.call 3 (.cons (.idx (.var 0) (.int 2)) .nil))) (.var 2)) (.cons (.idx (.var 0) (.int 3)) .nil)))) .nil) .nil []) (.cons (.ite (.cmp .eq (.var 3) (.str (("table" : PySem.Str)))) (.cons (.ret (.idx (.idx (.idx (.var 0) (.int 2)) (.var 1)) (.var 2))) .nil) .nil []) (.cons (.asgT (.cons (.var 4) (.cons (.var 5) (.cons (.var 6) .nil))) (.call 10 (.cons (.idx (.var 0) (.int 2)) .nil))) (.cons (.asg 0 7 (.call 13 (.cons (.idx (.var 0) (.int 1)) (.cons (.bin .fdiv (.var 1) (.var 4)) (.cons (.bin .fdiv (.var 2) (.var 5)) .nil))))) (.cons (.ret (.bin .add (.bin .mul (.var 7) (.var 6)) (.call 13 (.cons (.idx (.var 0) (.int 2)) (.cons (.bin .mod (.var 1) (.var 4)) (.cons (.bin .mod (.var 2) (.var 5)) .nil)))))) .nil))))))))
def m_13 : MDef := ⟨3, 8, 0, bd_13⟩
class C_13 (T : Tab) : Prop extends C_3 T, C_10 T, C_12 T where
  h_13 : T 13 = some m_13
theorem q_13 {T : Tab} {G : Nat → D} {n : Nat} [C_13 T] {a0 a1 a2 : R} : callN T G (n + 1) 13 [a0, a1, a2] = bnd (evSs (callN T G n) G (ownT T) bd_13 [a0, a1, a2, .un, .un, .un, .un, .un]) (endOf 3) := by
  rw [callN_at (C_13.h_13 (T := T))]
  rfl
@[scoped simp] theorem Ev.own_13 {T : Tab} [C_13 T] : ownT T 13 = 0 := ownT_at (C_13.h_13 (T := T))
/-- 14: is_word -/
def bd_14 : Sms := (.cons (.ite (.or (.cons (.not (.isi (.var 1) [.tuple] true)) (.cons (.cmp .ne (.blt .len (.var 1)) (.int 2)) (.cons (.not (.call 1 (.cons (.var 1) (.cons (.int 0) .nil)))) .nil)))) (.cons (.ret (.bl false)) .nil) .nil []) (.cons (.asgT (.cons (.var 2) (.cons (.var 3) (.cons (.var 4) .nil))) (.call 10 (.cons (.var 0) .nil))) (.cons (.ret (.and (.cons (.cmp .lt (.idx (.var 1) (.int 0)) (.var 2)) (.cons (.cmp .lt (.idx (.var 1) (.int 1)) (.var 3)) .nil)))) .nil)))
def m_14 : MDef := ⟨2, 5, 0, bd_14⟩
class C_14 (T : Tab) : Prop extends C_1 T, C_10 T where
  h_14 : T 14 = some m_14
theorem q_14 {T : Tab} {G : Nat → D} {n : Nat} [C_14 T] {a0 a1 : R} : callN T G (n + 1) 14 [a0, a1] = bnd (evSs (callN T G n) G (ownT T) bd_14 [a0, a1, .un, .un, .un]) (endOf 2) := by
  rw [callN_at (C_14.h_14 (T := T))]
  rfl
@[scoped simp] theorem Ev.own_14 {T : Tab} [C_14 T] : ownT T 14 = 0 := ownT_at (C_14.h_14 (T := T))
/-- 15: bank_of -/
def bd_15 : Sms := (.cons (.ite (.not (.call 14 (.cons (.var 0) (.cons (.var 1) .nil)))) (.cons (.rse "NoWord") .nil) .nil []) (.cons (.ret (.call 13 (.cons (.var 0) (.cons (.idx (.var 1) (.int 0)) (.cons (.idx (.var 1) (.int 1)) .nil))))) .nil))
def m_15 : MDef := ⟨2, 2, 0, bd_15⟩
class C_15 (T : Tab) : Prop extends C_13 T, C_14 T, CF T where
  h_15 : T 15 = some m_15
theorem q_15 {T : Tab} {G : Nat → D} {n : Nat} [C_15 T] {a0 a1 : R} : callN T G (n + 1) 15 [a0, a1] = bnd (evSs (callN T G n) G (ownT T) bd_15 [a0, a1]) (endOf 2) := by
  rw [callN_at (C_15.h_15 (T := T))]
  rfl
theorem rq_15 {T : Tab} {G : Nat → D} {n : Nat} [C_15 T] {a0 a1 : R} : callN T G (n + 1) (15 + rsK) [a0, a1] = bnd (rsSs (callN T G n) G (ownT T) bd_15 [a0, a1]) fun p => some (.str p.1, []) := by
  rw [callR_at (C_15.h_15 (T := T))]
  rfl
@[scoped simp] theorem Ev.own_15 {T : Tab} [C_15 T] : ownT T 15 = 0 := ownT_at (C_15.h_15 (T := T))
theorem rngOk_of {i : Int} (h0 : -16777216 ≤ i) (h1 : i ≤ 16777216) : rngOk i = true := decide_eq_true ⟨h0, h1⟩
theorem fits_of {n : Nat} (h : n ≤ 16777216) : fits n = true := decide_eq_true h
theorem sizeOk_of {n : Nat} (h : n < 16777216) : sizeOk n = true := decide_eq_true h
section
variable {T : Tab} {G : Nat → D} {n : Nat}
theorem whole_i [C_0 T] {i l : Int} : callN T G (n + 1) 0 [.val (.int i), .val (.int l)] = some (.bool (decide (l ≤ i)), [.un, .un]) := by
  rw [q_0]
  simp [bd_0]
theorem wholes_i [C_1 T] {is : List Int} {l : Int} {d : D} (hd : d = .list (is.map .int) ∨ d = .tuple (is.map .int)) : callN T G (n + 2) 1 [.val d, .val (.int l)] = some (.bool (is.all fun i => decide (l ≤ i)), [.un, .un]) := by
  have e : seqOf d = some (is.map .int) := by rcases hd with rfl | rfl <;> rfl
  rw [q_1]
  simp [bd_1, e]
  rw [comp_map' PyData.int (fun i => .bool (decide (l ≤ i))) rfl fun i _ => by simp [whole_i]]
  simp [Ev.boolsOf_mapf]
theorem pow2_ok [C_3 T] {m : Nat} (hm : m ≤ 1000) : callN T G (n + 1) 3 [.val (.int m)] = some (.int (2 ^ m), [.un]) := by
  rw [q_3]
  simp [bd_3, rngOk_of (show -16777216 ≤ (m : Int) by omega) (show (m : Int) ≤ 16777216 by omega)]
  rw [for_fold (fun (k : Nat) => PyData.int k) (fun y : Int => [.val (.int m), .val (.int y), .un]) (fun y _ => y * 2) (fun _ => True) (xs := List.range m) (s := 1) upTo0_map trivial (fun y k _ _ => ⟨trivial, by simp⟩)]
  simp
  have : ∀ (m : Nat) (y : Int), (List.range m).foldl (fun y _ => y * 2) y = y * 2 ^ m := by
    intro m y
    induction m with
    | zero => simp
    | succ m ih => rw [List.range_succ, List.foldl_append, ih, Int.pow_succ]; simp [Int.mul_assoc]
  rw [this, Int.one_mul]
theorem bits_ok [C_11 T] {x : Nat} (hx : x < 16777216) : callN T G (n + 1) 11 [.val (.int x)] = some (.int (pc x), [.un]) := by
  refine W.eq ?_
  rw [q_11]
  simp [bd_11]
  refine W_whl (fun m ρ => ∃ y c : Nat, m = y ∧ ρ = [.val (.int y), .val (.int c)] ∧ c + pc y = pc x) (m := x) (by unfold whlMax; omega) ⟨x, 0, rfl, rfl, by omega⟩ ?_
  rintro y _ ⟨_, c, rfl, rfl, h⟩
  simp
  by_cases hy : 0 < y
  · obtain ⟨p1, p2⟩ := pc_drop y hy
    have eb : Builtin.bitAnd (y : Int) ((y : Int) - 1) = ((y &&& (y - 1) : Nat) : Int) := by
      rw [← band_nat]
      congr 1
      omega
    refine .inl ⟨hy, ?_⟩
    simp [eb]
    exact ⟨_, p2, c + 1, ⟨rfl, by simp⟩, by omega⟩
  · have h0 : y = 0 := by omega
    subst h0
    refine .inr ⟨rfl, ?_⟩
    rw [pc_zero] at h
    omega
theorem masks_ok [C_12 T] {x : Nat} {ms : List Nat} (hx : x < 16777216) : callN T G (n + 2) 12 [.val (.int x), .val (masksD ms)] = some (.int (bm x ms), [.un, .un]) := by
  refine W.eq ?_
  rw [q_12]
  simp [bd_12, masksD]
  refine W_forM (fun m : Nat => PyData.int m) (fun l ρ => ∃ f st : Int, ρ = [.val (.int x), .val (masksD ms), .val (.int f), .val (.int st), .un] ∧ f + st * bm x l = bm x ms) rfl ⟨0, 1, rfl, by omega⟩ ?_ ?_
  · rintro m l _ _ ⟨f, st, rfl, h⟩
    simp [band_nat]
    have hp : x &&& m < 16777216 := Nat.lt_of_le_of_lt Nat.and_le_left hx
    rw [bits_ok hp]
    have q1 : sml (((pc (x &&& m) : Nat) : Int) % 2) := sml_of (by omega) (by omega)
    simp [q1]
    refine ⟨_, _, ⟨rfl, rfl⟩, ?_⟩
    rw [← h]
    simp only [bm]
    push_cast
    rw [Int.add_assoc, Int.mul_assoc, ← Int.mul_add]
  · rintro _ ⟨f, st, rfl, h⟩
    simp [bm] at h
    simp [h]
theorem size_ok [C_10 T] : ∀ {d : Deal} {L : Nat}, d.Ok → d.Sm → d.dep + 2 ≤ L → callN T G L 10 [.val d.enc] = some (.tuple [.int d.nr, .int d.nc, .int d.nb], [.un])
  | .skew .., L, _, h, hL => by
    obtain ⟨n, rfl⟩ : ∃ n, L = n + 1 := ⟨L - 1, by omega⟩
    simp only [Deal.enc]
    rw [q_10]
    simp [bd_10, Deal.nr, Deal.nc, Deal.nb]
  | .rests .., L, _, h, hL => by
    obtain ⟨n, rfl⟩ : ∃ n, L = n + 1 := ⟨L - 1, by omega⟩
    simp only [Deal.enc]
    rw [q_10]
    simp [bd_10, Deal.nr, Deal.nc, Deal.nb]
  | .bits a b ms, L, _, ⟨h1, h2⟩, hL => by
    obtain ⟨n, rfl⟩ : ∃ n, L = n + 2 := ⟨L - 2, by simp only [Deal.dep] at hL; omega⟩
    simp only [Deal.enc]
    rw [q_10]
    simp [bd_10, masksD, pow2_ok (show a ≤ 1000 by omega), pow2_ok (show b ≤ 1000 by omega), pow2_ok (show ms.length ≤ 1000 by omega), Deal.nr, Deal.nc, Deal.nb]
  | .table k rows, L, ho, h, hL => by
    obtain ⟨n, rfl⟩ : ∃ n, L = n + 1 := ⟨L - 1, by omega⟩
    simp only [Deal.enc]
    cases rows with
    | nil => exact (ho.2.1 rfl).elim
    | cons r rs =>
      rw [q_10]
      simp [bd_10, rowsD, rowD, Deal.nr, Deal.nc, Deal.nb]
  | .joined a b, L, ⟨o1, o2⟩, ⟨h1, h2, h3, h4, h5⟩, hL => by
    simp only [Deal.dep] at hL
    obtain ⟨n, rfl⟩ : ∃ n, L = n + 1 := ⟨L - 1, by omega⟩
    have l1 := Deal.le h1
    have p1 := Deal.pos o1
    have m1 : sml a.nr := sml_of (by omega) (by omega)
    have m2 : sml a.nc := sml_of (by omega) (by omega)
    have m3 : sml a.nb := sml_of (by omega) (by omega)
    have e1 := size_ok (d := a) (L := n) o1 h1 (by omega)
    have e2 := size_ok (d := b) (L := n) o2 h2 (by omega)
    simp only [Deal.enc]
    rw [q_10]
    simp [bd_10, e1, e2, m1, m2, m3, Deal.nr, Deal.nc, Deal.nb]
theorem bank_ok [C_13 T] : ∀ {d : Deal} {i j : Int} {L : Nat}, d.Ok → d.Sm → 0 ≤ i → i < d.nr → 0 ≤ j → j < d.nc → d.dep + 3 ≤ L → callN T G L 13 [.val d.enc, .val (.int i), .val (.int j)] = some (.int (d.bank i j), [.un, .un, .un])
  | .skew r c k x y, i, j, L, ⟨_, _, k1, x1, y1⟩, ⟨_, _, _, x2, y2⟩, i0, i1, j0, j1, hL => by
    obtain ⟨n, rfl⟩ : ∃ n, L = n + 1 := ⟨L - 1, by omega⟩
    have m1 : sml x := sml_of (by omega) (by omega)
    have m2 : sml y := sml_of (by omega) (by omega)
    have k0 : 0 < k := by omega
    simp only [Deal.enc]
    rw [q_13]
    simp [bd_13, m1, m2, k0, Deal.bank]
  | .rests r c k p, i, j, L, ⟨_, c1, k1, _⟩, ⟨_, c2, _⟩, i0, i1, j0, j1, hL => by
    obtain ⟨n, rfl⟩ : ∃ n, L = n + 1 := ⟨L - 1, by omega⟩
    have m1 : sml c := sml_of (by omega) (by omega)
    have k0 : 0 < k := by omega
    simp only [Deal.enc]
    rw [q_13]
    simp [bd_13, m1, k0, Deal.bank]
  | .bits a b ms, i, j, L, _, ⟨h1, h2⟩, i0, i1, j0, j1, hL => by
    obtain ⟨n, rfl⟩ : ∃ n, L = n + 3 := ⟨L - 3, by simp only [Deal.dep] at hL; omega⟩
    have i1' : i < 2 ^ a := i1
    have j1' : j < 2 ^ b := j1
    have e2 := pow2_ok (T := T) (G := G) (n := n + 1) (m := b) (by omega)
    have hb : (2 : Int) ^ b ≤ 1048576 := Deal.two_le (m := 20) (by omega)
    have hp := Deal.two_pos b
    have hab : (2 : Int) ^ a * 2 ^ b ≤ 1048576 := by rw [← Int.pow_add]; exact Deal.two_le (m := 20) h1
    have q := Int.mul_le_mul_of_nonneg_right (show i ≤ 2 ^ a - 1 by omega) (show (0 : Int) ≤ 2 ^ b by omega)
    rw [Int.sub_mul] at q
    have hx0 : 0 ≤ i * 2 ^ b := Int.mul_nonneg i0 (by omega)
    simp only [Deal.bank, Deal.enc]
    generalize (2 : Int) ^ b = y at *
    obtain ⟨x, ex⟩ : ∃ x : Nat, i * y + j = (x : Int) := ⟨(i * y + j).toNat, by omega⟩
    have em := masks_ok (T := T) (G := G) (n := n) (x := x) (ms := ms) (by omega)
    have m1 : sml y := sml_of (by omega) (by omega)
    rw [ex]
    rw [q_13]
    simp [bd_13, e2, m1, ex, em]
  | .table k rows, i, j, L, ⟨h1, h2, h4, h5⟩, _, i0, i1, j0, j1, hL => by
    obtain ⟨n, rfl⟩ : ∃ n, L = n + 1 := ⟨L - 1, by omega⟩
    have i1' : i < rows.length := i1
    have j1' : j < (rows.headD []).length := j1
    have hi : i.toNat < rows.length := by omega
    have hr := List.getElem?_eq_getElem hi
    have hl := (h5 _ (List.getElem_mem hi)).1
    have hj : j.toNat < rows[i.toNat].length := by omega
    have hc := List.getElem?_eq_getElem hj
    have x1 : ixD (rows.map rowD) i = some (rowD rows[i.toNat]) := by rw [ixD_int i0 (by simpa using i1')]; simp [hr]
    have x2 : ixD (rows[i.toNat].map PyData.int) j = some (.int rows[i.toNat][j.toNat]) := by rw [ixD_int j0 (by simp; omega)]; simp [hc]
    simp only [rowD] at x1
    simp only [Deal.enc]
    rw [q_13]
    simp [bd_13, rowsD, rowD, x1, x2, hr, hc, Deal.bank]
  | .joined a b, i, j, L, ⟨h1, h2⟩, ⟨s1, s2, _, _, _⟩, i0, i1, j0, j1, hL => by
    simp only [Deal.dep] at hL
    obtain ⟨n, rfl⟩ : ∃ n, L = n + 1 := ⟨L - 1, by omega⟩
    have i1' : i < a.nr * b.nr := i1
    have j1' : j < a.nc * b.nc := j1
    have p := Deal.pos h2
    have l := Deal.le s2
    have es := size_ok (T := T) (G := G) (L := n) h2 s2 (by omega)
    have e1 := bank_ok (d := a) (i := i / b.nr) (j := j / b.nc) (L := n) h1 s1 (Int.ediv_nonneg i0 (by omega)) (Int.ediv_lt_of_lt_mul (by omega) i1') (Int.ediv_nonneg j0 (by omega)) (Int.ediv_lt_of_lt_mul (by omega) j1') (by omega)
    have e2 := bank_ok (d := b) (i := i % b.nr) (j := j % b.nc) (L := n) h2 s2 (Int.emod_nonneg _ (by omega)) (Int.emod_lt_of_pos _ (by omega)) (Int.emod_nonneg _ (by omega)) (Int.emod_lt_of_pos _ (by omega)) (by omega)
    have r0 : 0 < b.nr := by omega
    have r2 : b.nr < 1073741824 := by omega
    have c0 : 0 < b.nc := by omega
    have c2 : b.nc < 1073741824 := by omega
    have m1 : sml b.nb := sml_of (by omega) (by omega)
    simp only [Deal.enc]
    rw [q_13]
    simp [bd_13, es, e1, e2, r0, r2, c0, c2, m1, Deal.bank]
/-- a pair of numbers: is it a word -/
theorem word_ok [C_14 T] {d : Deal} {i j : Int} (h : d.Good) : callN T G (n + 6) 14 [.val d.enc, .val (.tuple [.int i, .int j])] = some (.bool (decide (0 ≤ i ∧ i < d.nr ∧ 0 ≤ j ∧ j < d.nc)), [.un, .un]) := by
  have e1 := wholes_i (T := T) (G := G) (n := n + 3) (is := [i, j]) (l := 0) (.inr rfl)
  have e2 := size_ok (T := T) (G := G) (L := n + 5) h.ok h.sm (by have := h.dp; omega)
  simp at e1
  rw [q_14]
  by_cases h0 : 0 ≤ i ∧ 0 ≤ j
  · have z : (decide (0 ≤ i) && decide (0 ≤ j)) = true := by simp [h0]
    rw [z] at e1
    by_cases hi : i < d.nr
    · simp [bd_14, e1, e2, hi, h0.1, h0.2]
    · simp [bd_14, e1, e2, hi]
  · have z : (decide (0 ≤ i) && decide (0 ≤ j)) = false := by simp; omega
    rw [z] at e1
    simp [bd_14, e1, e2]
    omega
theorem bankof_ok [C_15 T] {d : Deal} {i j : Int} (h : d.Good) (i0 : 0 ≤ i) (i1 : i < d.nr) (j0 : 0 ≤ j) (j1 : j < d.nc) : callN T G (n + 7) 15 [.val d.enc, .val (.tuple [.int i, .int j])] = some (.int (d.bank i j), [.un, .un]) := by
  have e1 := word_ok (T := T) (G := G) (n := n) (i := i) (j := j) h
  have e2 := bank_ok (T := T) (G := G) (L := n + 6) (i := i) (j := j) h.ok h.sm i0 i1 j0 j1 (by have := h.dp; omega)
  simp [i0, i1, j0, j1] at e1
  rw [q_15]
  simp [bd_15, e1, e2]
end
end BW

namespace BW
open PySem PySem.Spec PyProof.Rows L2
open scoped BW.Ev
/-! BwV3: drawn dealings. -/
/-- 113: sides -/
def bd_113 : Sms := (.cons (.asg 0 1 (.idx (.lst (.cons (.int 6) (.cons (.int 6) (.cons (.int 6) (.cons (.int 16) .nil))))) (.call 92 (.cons (.io 0) (.cons (.int 4) .nil))))) (.cons (.par 2 3 (.bin .add (.int 1) (.call 92 (.cons (.io 0) (.cons (.var 1) .nil)))) (.bin .add (.int 1) (.call 92 (.cons (.io 0) (.cons (.var 1) .nil)))) 0 0) (.cons (.ret (.idx (.lst (.cons (.tup (.cons (.var 2) (.cons (.var 3) .nil))) (.cons (.tup (.cons (.var 2) (.cons (.var 3) .nil))) (.cons (.tup (.cons (.var 2) (.cons (.var 3) .nil))) (.cons (.tup (.cons (.var 2) (.cons (.var 2) .nil))) .nil))))) (.call 92 (.cons (.io 0) (.cons (.int 4) .nil))))) .nil)))
def m_113 : MDef := ⟨1, 4, 0, bd_113⟩
class C_113 (T : Tab) : Prop extends C_92 T where
  h_113 : T 113 = some m_113
theorem q_113 {T : Tab} {G : Nat → D} {n : Nat} [C_113 T] {a0 : R} : callN T G (n + 1) 113 [a0] = bnd (evSs (callN T G n) G (ownT T) bd_113 [a0, .un, .un, .un]) (endOf 1) := by
  rw [callN_at (C_113.h_113 (T := T))]
  rfl
@[scoped simp] theorem Ev.own_113 {T : Tab} [C_113 T] : ownT T 113 = 0 := ownT_at (C_113.h_113 (T := T))
/-- 114: gcd -/
def bd_114 : Sms := (.cons (.whl (.cmp .gt (.var 1) (.int 0)) (.cons (.par 0 1 (.var 1) (.bin .mod (.var 0) (.var 1)) 0 0) .nil) []) (.cons (.ret (.var 0)) .nil))
def m_114 : MDef := ⟨2, 2, 0, bd_114⟩
class C_114 (T : Tab) : Prop where
  h_114 : T 114 = some m_114
theorem q_114 {T : Tab} {G : Nat → D} {n : Nat} [C_114 T] {a0 a1 : R} : callN T G (n + 1) 114 [a0, a1] = bnd (evSs (callN T G n) G (ownT T) bd_114 [a0, a1]) (endOf 2) := by
  rw [callN_at (C_114.h_114 (T := T))]
  rfl
@[scoped simp] theorem Ev.own_114 {T : Tab} [C_114 T] : ownT T 114 = 0 := ownT_at (C_114.h_114 (T := T))
/-- 115: skew -/
def bd_115 : Sms := (.cons (.asgT (.cons (.var 1) (.cons (.var 2) .nil)) (.call 113 (.cons (.io 0) .nil))) (.cons (.asg 0 3 (.bin .add (.int 1) (.call 92 (.cons (.io 0) (.cons (.idx (.lst (.cons (.int 8) (.cons (.int 8) (.cons (.int 17) (.cons (.int 32) .nil))))) (.call 92 (.cons (.io 0) (.cons (.int 4) .nil)))) .nil))))) (.cons (.asg 0 4 (.idx (.lst (.cons (.var 3) (.cons (.int 10) (.cons (.int 100) .nil)))) (.call 92 (.cons (.io 0) (.cons (.int 3) .nil))))) (.cons (.ret (.tup (.cons (.str (("skew" : PySem.Str))) (.cons (.var 1) (.cons (.var 2) (.cons (.var 3) (.cons (.call 92 (.cons (.io 0) (.cons (.var 4) .nil))) (.cons (.call 92 (.cons (.io 0) (.cons (.var 4) .nil))) .nil)))))))) .nil))))
def m_115 : MDef := ⟨1, 5, 0, bd_115⟩
class C_115 (T : Tab) : Prop extends C_92 T, C_113 T where
  h_115 : T 115 = some m_115
theorem q_115 {T : Tab} {G : Nat → D} {n : Nat} [C_115 T] {a0 : R} : callN T G (n + 1) 115 [a0] = bnd (evSs (callN T G n) G (ownT T) bd_115 [a0, .un, .un, .un, .un]) (endOf 1) := by
  rw [callN_at (C_115.h_115 (T := T))]
  rfl
@[scoped simp] theorem Ev.own_115 {T : Tab} [C_115 T] : ownT T 115 = 0 := ownT_at (C_115.h_115 (T := T))
/-- 116: rests -/
def bd_116 : Sms := (.cons (.asgT (.cons (.var 1) (.cons (.var 2) .nil)) (.call 113 (.cons (.io 0) .nil))) (.cons (.asg 0 3 (.bin .add (.int 1) (.call 92 (.cons (.io 0) (.cons (.idx (.lst (.cons (.int 8) (.cons (.int 17) (.cons (.int 32) .nil)))) (.call 92 (.cons (.io 0) (.cons (.int 3) .nil)))) .nil))))) (.cons (.asg 0 4 (.bin .add (.neg (.bin .fdiv (.bin .mul (.neg (.var 1)) (.var 2)) (.var 3))) (.call 92 (.cons (.io 0) (.cons (.int 4) .nil))))) (.cons (.for_ (.var 5) (.rng (.int 32)) (.cons (.ite (.cmp .gt (.call 114 (.cons (.var 3) (.cons (.var 4) .nil))) (.int 1)) (.cons (.asg 0 4 (.bin .add (.var 4) (.int 1))) .nil) .nil []) .nil) [5]) (.cons (.ret (.tup (.cons (.str (("rests" : PySem.Str))) (.cons (.var 1) (.cons (.var 2) (.cons (.var 3) (.cons (.var 4) .nil))))))) .nil)))))
def m_116 : MDef := ⟨1, 6, 0, bd_116⟩
class C_116 (T : Tab) : Prop extends C_92 T, C_113 T, C_114 T where
  h_116 : T 116 = some m_116
theorem q_116 {T : Tab} {G : Nat → D} {n : Nat} [C_116 T] {a0 : R} : callN T G (n + 1) 116 [a0] = bnd (evSs (callN T G n) G (ownT T) bd_116 [a0, .un, .un, .un, .un, .un]) (endOf 1) := by
  rw [callN_at (C_116.h_116 (T := T))]
  rfl
@[scoped simp] theorem Ev.own_116 {T : Tab} [C_116 T] : ownT T 116 = 0 := ownT_at (C_116.h_116 (T := T))
/-- 117: bits -/
def bd_117 : Sms := (.cons (.par 2 3 (.call 92 (.cons (.io 0) (.cons (.bin .add (.var 1) (.int 1)) .nil))) (.call 92 (.cons (.io 0) (.cons (.bin .add (.var 1) (.int 1)) .nil))) 0 0) (.cons (.asg 0 5 (.comp (.call 92 (.cons (.io 0) (.cons (.int 256) .nil))) (.var 4) (.rng (.call 92 (.cons (.io 0) (.cons (.int 6) .nil)))) .nil [4])) (.cons (.asg 0 6 (.idx (.lst (.cons (.int 1) (.cons (.int 2) (.cons (.int 4) (.cons (.int 8) (.cons (.int 16) (.cons (.int 32) (.cons (.int 64) (.cons (.int 128) (.cons (.int 256) .nil)))))))))) (.bin .add (.var 2) (.var 3)))) (.cons (.ret (.tup (.cons (.str (("bits" : PySem.Str))) (.cons (.var 2) (.cons (.var 3) (.cons (.blt .tuple (.comp (.bin .mod (.var 7) (.var 6)) (.var 7) (.seq (.var 5)) .nil [7])) .nil)))))) .nil))))
def m_117 : MDef := ⟨2, 8, 0, bd_117⟩
class C_117 (T : Tab) : Prop extends C_92 T where
  h_117 : T 117 = some m_117
theorem q_117 {T : Tab} {G : Nat → D} {n : Nat} [C_117 T] {a0 a1 : R} : callN T G (n + 1) 117 [a0, a1] = bnd (evSs (callN T G n) G (ownT T) bd_117 [a0, a1, .un, .un, .un, .un, .un, .un]) (endOf 2) := by
  rw [callN_at (C_117.h_117 (T := T))]
  rfl
@[scoped simp] theorem Ev.own_117 {T : Tab} [C_117 T] : ownT T 117 = 0 := ownT_at (C_117.h_117 (T := T))
/-- 118: table -/
def bd_118 : Sms := (.cons (.asgT (.cons (.var 1) (.cons (.var 2) .nil)) (.call 113 (.cons (.io 0) .nil))) (.cons (.asg 0 3 (.bin .add (.int 1) (.call 92 (.cons (.io 0) (.cons (.idx (.lst (.cons (.int 4) (.cons (.int 9) (.cons (.int 32) .nil)))) (.call 92 (.cons (.io 0) (.cons (.int 3) .nil)))) .nil))))) (.cons (.asg 0 6 (.comp (.blt .tuple (.comp (.call 92 (.cons (.io 0) (.cons (.var 3) .nil))) (.var 5) (.rng (.var 2)) .nil [5])) (.var 4) (.rng (.var 1)) .nil [4])) (.cons (.ret (.tup (.cons (.str (("table" : PySem.Str))) (.cons (.var 3) (.cons (.blt .tuple (.var 6)) .nil))))) .nil))))
def m_118 : MDef := ⟨1, 7, 0, bd_118⟩
class C_118 (T : Tab) : Prop extends C_92 T, C_113 T where
  h_118 : T 118 = some m_118
theorem q_118 {T : Tab} {G : Nat → D} {n : Nat} [C_118 T] {a0 : R} : callN T G (n + 1) 118 [a0] = bnd (evSs (callN T G n) G (ownT T) bd_118 [a0, .un, .un, .un, .un, .un, .un]) (endOf 1) := by
  rw [callN_at (C_118.h_118 (T := T))]
  rfl
@[scoped simp] theorem Ev.own_118 {T : Tab} [C_118 T] : ownT T 118 = 0 := ownT_at (C_118.h_118 (T := T))
/-- 119: small -/
def bd_119 : Sms := (.cons (.asgT (.cons (.var 1) (.cons (.var 2) (.cons (.var 3) .nil))) (.tup (.cons (.bin .add (.int 1) (.call 92 (.cons (.io 0) (.cons (.int 4) .nil)))) (.cons (.bin .add (.int 1) (.call 92 (.cons (.io 0) (.cons (.int 4) .nil)))) (.cons (.bin .add (.int 1) (.call 92 (.cons (.io 0) (.cons (.int 5) .nil)))) .nil))))) (.cons (.asg 0 4 (.call 92 (.cons (.io 0) (.cons (.int 4) .nil)))) (.cons (.ite (.cmp .eq (.var 4) (.int 0)) (.cons (.ret (.tup (.cons (.str (("skew" : PySem.Str))) (.cons (.var 1) (.cons (.var 2) (.cons (.var 3) (.cons (.call 92 (.cons (.io 0) (.cons (.var 3) .nil))) (.cons (.call 92 (.cons (.io 0) (.cons (.int 9) .nil))) .nil)))))))) .nil) .nil []) (.cons (.ite (.cmp .eq (.var 4) (.int 1)) (.cons (.par 5 6 (.call 92 (.cons (.io 0) (.cons (.int 3) .nil))) (.call 92 (.cons (.io 0) (.cons (.int 3) .nil))) 0 0) (.cons (.asg 0 8 (.comp (.call 92 (.cons (.io 0) (.cons (.int 16) .nil))) (.var 7) (.rng (.call 92 (.cons (.io 0) (.cons (.int 3) .nil)))) .nil [7])) (.cons (.asg 0 9 (.idx (.lst (.cons (.int 1) (.cons (.int 2) (.cons (.int 4) (.cons (.int 8) (.cons (.int 16) .nil)))))) (.bin .add (.var 5) (.var 6)))) (.cons (.ret (.tup (.cons (.str (("bits" : PySem.Str))) (.cons (.var 5) (.cons (.var 6) (.cons (.blt .tuple (.comp (.bin .mod (.var 10) (.var 9)) (.var 10) (.seq (.var 8)) .nil [10])) .nil)))))) .nil)))) .nil [5, 6, 8, 9]) (.cons (.ite (.cmp .eq (.var 4) (.int 2)) (.cons (.asg 0 11 (.bin .add (.neg (.bin .fdiv (.bin .mul (.neg (.var 1)) (.var 2)) (.var 3))) (.call 92 (.cons (.io 0) (.cons (.int 3) .nil))))) (.cons (.for_ (.var 12) (.rng (.int 9)) (.cons (.ite (.cmp .gt (.call 114 (.cons (.var 3) (.cons (.var 11) .nil))) (.int 1)) (.cons (.asg 0 11 (.bin .add (.var 11) (.int 1))) .nil) .nil []) .nil) [12]) (.cons (.ret (.tup (.cons (.str (("rests" : PySem.Str))) (.cons (.var 1) (.cons (.var 2) (.cons (.var 3) (.cons (.var 11) .nil))))))) .nil))) .nil [11, 12]) (.cons (.asg 0 15 (.comp (.blt .tuple (.comp (.call 92 (.cons (.io 0) (.cons (.var 3) .nil))) (.var 14) (.rng (.var 2)) .nil [14])) (.var 13) (.rng (.var 1)) .nil [13])) (.cons (.ret (.tup (.cons (.str (("table" : PySem.Str))) (.cons (.var 3) (.cons (.blt .tuple (.var 15)) .nil))))) .nil)))))))
def m_119 : MDef := ⟨1, 16, 0, bd_119⟩
class C_119 (T : Tab) : Prop extends C_92 T, C_114 T where
  h_119 : T 119 = some m_119
theorem q_119 {T : Tab} {G : Nat → D} {n : Nat} [C_119 T] {a0 : R} : callN T G (n + 1) 119 [a0] = bnd (evSs (callN T G n) G (ownT T) bd_119 [a0, .un, .un, .un, .un, .un, .un, .un, .un, .un, .un, .un, .un, .un, .un, .un]) (endOf 1) := by
  rw [callN_at (C_119.h_119 (T := T))]
  rfl
@[scoped simp] theorem Ev.own_119 {T : Tab} [C_119 T] : ownT T 119 = 0 := ownT_at (C_119.h_119 (T := T))
/-- 120: dealing -/
def bd_120 : Sms := (.cons (.asg 0 1 (.call 92 (.cons (.io 0) (.cons (.int 8) .nil)))) (.cons (.ite (.cmp .lt (.var 1) (.int 2)) (.cons (.ret (.call 115 (.cons (.io 0) .nil))) .nil) .nil []) (.cons (.ite (.cmp .eq (.var 1) (.int 2)) (.cons (.ret (.call 116 (.cons (.io 0) .nil))) .nil) .nil []) (.cons (.ite (.cmp .eq (.var 1) (.int 3)) (.cons (.ret (.call 117 (.cons (.io 0) (.cons (.int 4) .nil)))) .nil) .nil []) (.cons (.ite (.cmp .eq (.var 1) (.int 4)) (.cons (.ret (.call 118 (.cons (.io 0) .nil))) .nil) .nil []) (.cons (.ite (.cmp .eq (.var 1) (.int 5)) (.cons (.asg 0 2 (.tup (.cons (.str (("joined" : PySem.Str))) (.cons (.tup (.cons (.str (("skew" : PySem.Str))) (.cons (.bin .add (.int 1) (.call 92 (.cons (.io 0) (.cons (.int 2) .nil)))) (.cons (.int 1) (.cons (.int 2) (.cons (.int 1) (.cons (.int 1) .nil))))))) (.cons (.tup (.cons (.str (("table" : PySem.Str))) (.cons (.int 2) (.cons (.tup (.cons (.tup (.cons (.int 1) (.cons (.int 0) .nil))) .nil)) .nil)))) .nil))))) (.cons (.asg 1 3 (.lst (.cons (.tup (.cons (.str (("joined" : PySem.Str))) (.cons (.var 2) (.cons (.call 119 (.cons (.io 0) .nil)) .nil)))) (.cons (.tup (.cons (.str (("joined" : PySem.Str))) (.cons (.call 119 (.cons (.io 0) .nil)) (.cons (.var 2) .nil)))) .nil)))) (.cons (.mut 3 [] .append (.cons (.tup (.cons (.str (("joined" : PySem.Str))) (.cons (.tup (.cons (.str (("skew" : PySem.Str))) (.cons (.int 8) (.cons (.int 1) (.cons (.int 3) (.cons (.int 1) (.cons (.int 1) .nil))))))) (.cons (.tup (.cons (.str (("rests" : PySem.Str))) (.cons (.int 2) (.cons (.int 16) (.cons (.int 5) (.cons (.int 7) .nil)))))) .nil)))) .nil)) (.cons (.mut 3 [] .append (.cons (.tup (.cons (.str (("joined" : PySem.Str))) (.cons (.tup (.cons (.str (("rests" : PySem.Str))) (.cons (.int 1) (.cons (.int 8) (.cons (.int 3) (.cons (.int 4) .nil)))))) (.cons (.tup (.cons (.str (("skew" : PySem.Str))) (.cons (.int 16) (.cons (.int 2) (.cons (.int 5) (.cons (.int 2) (.cons (.int 1) .nil))))))) .nil)))) .nil)) (.cons (.ret (.idx (.var 3) (.call 92 (.cons (.io 0) (.cons (.int 4) .nil))))) .nil))))) .nil [2, 3]) (.cons (.ret (.tup (.cons (.str (("joined" : PySem.Str))) (.cons (.call 119 (.cons (.io 0) .nil)) (.cons (.call 119 (.cons (.io 0) .nil)) .nil))))) .nil)))))))
def m_120 : MDef := ⟨1, 4, 0, bd_120⟩
class C_120 (T : Tab) : Prop extends C_92 T, C_115 T, C_116 T, C_117 T, C_118 T, C_119 T where
  h_120 : T 120 = some m_120
theorem q_120 {T : Tab} {G : Nat → D} {n : Nat} [C_120 T] {a0 : R} : callN T G (n + 1) 120 [a0] = bnd (evSs (callN T G n) G (ownT T) bd_120 [a0, .un, .un, .un]) (endOf 1) := by
  rw [callN_at (C_120.h_120 (T := T))]
  rfl
@[scoped simp] theorem Ev.own_120 {T : Tab} [C_120 T] : ownT T 120 = 0 := ownT_at (C_120.h_120 (T := T))
theorem gcd_step {a b : Int} (h : 0 < b) : Int.gcd b (a % b) = Int.gcd a b := by
  rw [Int.gcd_comm a b, Int.emod_def, Int.gcd_sub_mul_left_right]
section
variable {T : Tab} {G : Nat → D} {n : Nat}
theorem sides_W [C_113 T] {d : D} {b : Nat} {Q : D × List R → Prop} (h : LSd d b) (hb : b < 10000000)
    (k : ∀ r c d', 1 ≤ r → r ≤ 16 → 1 ≤ c → c ≤ 16 → LSd d' (b + 4) → Q (.tuple [.int r, .int c], [.io 1 d'])) : W (callN T G (n + 3) 113 [.io 1 d]) Q := by
  rw [q_113]
  simp [bd_113]
  refine pick_W h (by omega) (by omega) (by omega) fun v1 d1 a1 b1 l1 => ?_
  simp
  refine ixi_W 1 16 a1 b1 (by simp) fun w w1 w2 => ?_
  simp
  refine pick_W l1 (by omega) (by omega) (by omega) fun v2 d2 a2 b2 l2 => ?_
  simp
  refine pick_W l2 (by omega) (by omega) (by omega) fun v3 d3 a3 b3 l3 => ?_
  simp
  refine pick_W l3 (by omega) (by omega) (by omega) fun v4 d4 a4 b4 l4 => ?_
  simp
  refine ixl_W (fun x => ∃ r c : Int, x = .tuple [.int r, .int c] ∧ 1 ≤ r ∧ r ≤ 16 ∧ 1 ≤ c ∧ c ≤ 16) a4 b4 ?_ fun x ⟨r, c, e, h1, h2, h3, h4⟩ => ?_
  · intro x hx
    simp at hx
    rcases hx with rfl | rfl <;> exact ⟨_, _, rfl, by omega, by omega, by omega, by omega⟩
  subst e
  simp
  exact k _ _ _ h1 h2 h3 h4 l4
theorem gcd_ok [C_114 T] {a b : Int} (h0 : 0 ≤ b) (h1 : b < 16777216) (ha : 0 ≤ a) : callN T G (n + 1) 114 [.val (.int a), .val (.int b)] = some (.int (Int.gcd a b), [.un, .un]) := by
  refine W.eq ?_
  rw [q_114]
  simp [bd_114]
  refine W_whl (fun m ρ => ∃ x y : Int, m = y.toNat ∧ ρ = [.val (.int x), .val (.int y)] ∧ 0 ≤ x ∧ 0 ≤ y ∧ Int.gcd x y = Int.gcd a b) (m := b.toNat) (by unfold whlMax; omega) ⟨a, b, rfl, rfl, ha, h0, rfl⟩ ?_
  rintro m _ ⟨x, y, rfl, rfl, hx, hy, h⟩
  simp
  by_cases hp : 0 < y
  · refine .inl ⟨hp, ?_⟩
    simp [hp]
    refine ⟨_, ?_, _, _, rfl, ⟨rfl, rfl⟩, hy, Int.emod_nonneg _ (by omega), ?_⟩
    · have := Int.emod_lt_of_pos x hp
      have := Int.emod_nonneg x (show y ≠ 0 by omega)
      omega
    · rw [gcd_step hp, h]
  · have : y = 0 := by omega
    subst this
    refine .inr ⟨by omega, ?_⟩
    rw [← h]
    simp
    omega
theorem skew_W [C_115 T] {d : D} {b : Nat} {Q : D × List R → Prop} (h : LSd d b) (hb : b < 1000000)
    (k : ∀ r c k x y d', 1 ≤ r → r ≤ 16 → 1 ≤ c → c ≤ 16 → 1 ≤ k → k ≤ 32 → 0 ≤ x → x < 100 → 0 ≤ y → y < 100 → LSd d' (b + 9) → Q ((Deal.skew r c k x y).enc, [.io 1 d'])) : W (callN T G (n + 4) 115 [.io 1 d]) Q := by
  rw [q_115]
  simp [bd_115]
  refine sides_W h (by omega) fun r c d0 r1 r2 c1 c2 l0 => ?_
  simp
  refine pick_W l0 (by omega) (by omega) (by omega) fun v1 d1 a1 b1 l1 => ?_
  simp
  refine ixi_W 1 32 a1 b1 (by simp) fun w w1 w2 => ?_
  simp
  refine pick_W l1 (by omega) (by omega) (by omega) fun v2 d2 a2 b2 l2 => ?_
  simp
  refine pick_W l2 (by omega) (by omega) (by omega) fun v3 d3 a3 b3 l3 => ?_
  simp
  refine ixi_W 1 100 a3 b3 (by simp; omega) fun u u1 u2 => ?_
  simp
  refine pick_W l3 (by omega) (by omega) (by omega) fun v4 d4 a4 b4 l4 => ?_
  simp
  refine pick_W l4 (by omega) (by omega) (by omega) fun v5 d5 a5 b5 l5 => ?_
  simp
  exact k r c (1 + v2) v4 v5 _ r1 r2 c1 c2 (by omega) (by omega) a4 (by omega) a5 (by omega) l5
/-- a number without a common divisor comes within k steps -/
theorem coprime_in {k p : Int} (hk : 1 ≤ k) : ∃ t : Nat, t < k ∧ Int.gcd k (p + t) = 1 := by
  refine ⟨((1 - p) % k).toNat, ?_, ?_⟩
  · have := Int.emod_lt_of_pos (1 - p) (show 0 < k by omega)
    have := Int.emod_nonneg (1 - p) (show k ≠ 0 by omega)
    omega
  · have := Int.emod_nonneg (1 - p) (show k ≠ 0 by omega)
    rw [Int.toNat_of_nonneg this]
    have e : p + (1 - p) % k = 1 - k * ((1 - p) / k) := by rw [Int.emod_def]; omega
    rw [e, Int.gcd_sub_mul_left_right, Int.gcd_one]
/-- the places of a rests dealing, raised until there is no common divisor -/
theorem raise_ok [C_114 T] {t : Nat} {b : Sms} {ks : List Nat} {kk p : Int} {m : Nat} (env : Int → Env) (hm : kk ≤ m) (k1 : 1 ≤ kk) (p0 : 0 ≤ p)
    (hb : ∀ (j : Nat) (q : Int), p ≤ q → q ≤ p + m → W (fB (callN T G (n + 1)) G (ownT T) (.var t) b (.int j) (env q)) (StepR (fun ρ => ρ = env (if 1 < Int.gcd kk q then q + 1 else q)) ks fun _ => False))
    : ∃ q, p ≤ q ∧ q < p + kk ∧ Int.gcd kk q = 1 ∧ forB (callN T G (n + 1)) G (ownT T) (.var t) b ks (upTo 0 m) (env p) = some (.nx (env q)) := by
  have H : ∀ (l : List Nat) (q : Int), p ≤ q → q + l.length ≤ p + m → (∀ s : Int, p ≤ s → s < q → Int.gcd kk s ≠ 1) → ∃ q', p ≤ q' ∧ q' ≤ p + m ∧ (∀ s : Int, p ≤ s → s < q' → Int.gcd kk s ≠ 1) ∧ (Int.gcd kk q' = 1 ∨ q' = q + l.length) ∧ forB (callN T G (n + 1)) G (ownT T) (.var t) b ks (l.map fun (k : Nat) => PyData.int k) (env q) = some (.nx (env q')) := by
    intro l
    induction l with
    | nil => exact fun q h1 h2 h3 => ⟨q, h1, by simp at h2; omega, h3, .inr (by simp), rfl⟩
    | cons x l ih =>
      intro q h1 h2 h3
      simp only [List.length_cons] at h2 ⊢
      obtain ⟨r, e, hr⟩ := hb x q h1 (by omega)
      have key : ∀ ρ', kills ρ' ks = env (if 1 < Int.gcd kk q then q + 1 else q) → ∃ q', p ≤ q' ∧ q' ≤ p + m ∧ (∀ s : Int, p ≤ s → s < q' → Int.gcd kk s ≠ 1) ∧ (Int.gcd kk q' = 1 ∨ q' = q + ((l.length + 1 : Nat) : Int)) ∧ forL (fB (callN T G (n + 1)) G (ownT T) (.var t) b) ks (l.map fun (k : Nat) => PyData.int k) (kills ρ' ks) = some (.nx (env q')) := by
        intro ρ' hρ
        rw [hρ]
        by_cases hg : 1 < Int.gcd kk q
        · rw [if_pos hg]
          obtain ⟨q', a1, a2, a3, a4, a5⟩ := ih (q + 1) (by omega) (by omega) (fun s s1 s2 => by
            by_cases hs : s = q
            · subst hs; omega
            · exact h3 s s1 (by omega))
          exact ⟨q', a1, a2, a3, a4.elim .inl fun a => .inr (by omega), a5⟩
        · rw [if_neg hg]
          have h0 : Int.gcd kk q ≠ 0 := by
            intro z
            rw [Int.gcd_eq_zero_iff] at z
            omega
          obtain ⟨q', a1, a2, a3, a4, a5⟩ := ih q h1 (by omega) h3
          refine ⟨q', a1, a2, a3, .inl ?_, a5⟩
          rcases a4 with a4 | a4
          · exact a4
          · by_cases hq : q < q'
            · exact absurd (show Int.gcd kk q = 1 by omega) (a3 q h1 hq)
            · have : q' = q := by omega
              subst this
              omega
      unfold forB
      rw [List.map_cons, forL, e]
      cases r with
      | nx ρ' => exact key ρ' hr
      | ct ρ' => exact key ρ' hr
      | bk ρ' => exact False.elim hr
      | rt d ρ' => exact False.elim hr
  rw [upTo0_map]
  obtain ⟨q', a1, a2, a3, a4, a5⟩ := H (List.range m) p (Int.le_refl _) (by simp) (fun s h1 h2 => by omega)
  obtain ⟨u, hu, eu⟩ := coprime_in (k := kk) (p := p) k1
  have hq : q' < p + kk := by
    rcases Int.lt_or_le q' (p + kk) with h | h
    · exact h
    · exact absurd eu (a3 (p + u) (by omega) (by omega))
  refine ⟨q', a1, hq, ?_, a5⟩
  rcases a4 with a4 | a4
  · exact a4
  · simp at a4
    omega
theorem raise_W [C_114 T] {t : Nat} {b : Sms} {ks : List Nat} {kk p : Int} {m : Nat} {Q : Res → Prop} (env : Int → Env) (hm : kk ≤ m) (k1 : 1 ≤ kk) (p0 : 0 ≤ p)
    (hb : ∀ (j : Nat) (q : Int), p ≤ q → q ≤ p + m → W (fB (callN T G (n + 1)) G (ownT T) (.var t) b (.int j) (env q)) (StepR (fun ρ => ρ = env (if 1 < Int.gcd kk q then q + 1 else q)) ks fun _ => False))
    (k : ∀ q, p ≤ q → q < p + kk → Int.gcd kk q = 1 → Q (.nx (env q))) : W (forB (callN T G (n + 1)) G (ownT T) (.var t) b ks (upTo 0 m) (env p)) Q := by
  obtain ⟨q, h1, h2, h3, e⟩ := raise_ok env hm k1 p0 hb
  exact .of e (k q h1 h2 h3)
theorem ceil_bd {x k : Int} (k1 : 1 ≤ k) (x1 : 1 ≤ x) : 1 ≤ -(-x / k) ∧ -(-x / k) ≤ x ∧ x ≤ k * -(-x / k) := by
  have h1 := Int.mul_ediv_self_le (x := -x) (k := k) (by omega)
  have h2 := Int.lt_mul_ediv_self_add (x := -x) (k := k) (by omega)
  generalize -x / k = e at *
  have h3 : x ≤ k * -e := by rw [Int.mul_neg]; omega
  refine ⟨?_, ?_, h3⟩
  · rcases Int.lt_or_le (-e) 1 with h | h
    · have := Int.mul_le_mul_of_nonneg_left (show -e ≤ 0 by omega) (show 0 ≤ k by omega)
      omega
    · exact h
  · rcases Int.lt_or_le x (-e) with h | h
    · have e1 := Int.mul_le_mul_of_nonneg_left (show e + 1 ≤ -x by omega) (show 0 ≤ k by omega)
      have e2 := Int.mul_le_mul_of_nonneg_right k1 (show 0 ≤ x by omega)
      rw [Int.mul_add, Int.mul_neg] at e1
      omega
    · exact h
theorem mul_bd {r c R C : Int} (r1 : 1 ≤ r) (r2 : r ≤ R) (c1 : 1 ≤ c) (c2 : c ≤ C) : 1 ≤ r * c ∧ r * c ≤ R * C := by
  have h1 : 0 < r * c := Int.mul_pos r1 c1
  have h2 : r * c ≤ R * c := Int.mul_le_mul_of_nonneg_right r2 (by omega)
  have h3 : R * c ≤ R * C := Int.mul_le_mul_of_nonneg_left c2 (by omega)
  omega
theorem rests_W [C_116 T] {d : D} {b : Nat} {Q : D × List R → Prop} (h : LSd d b) (hb : b < 1000000)
    (k : ∀ r c k p d', 1 ≤ r → r ≤ 16 → 1 ≤ c → c ≤ 16 → 1 ≤ k → k ≤ 32 → 1 ≤ p → p ≤ 300 → Int.gcd k p = 1 → r * c ≤ k * p → LSd d' (b + 7) → Q ((Deal.rests r c k p).enc, [.io 1 d'])) : W (callN T G (n + 4) 116 [.io 1 d]) Q := by
  rw [q_116]
  simp [bd_116]
  refine sides_W h (by omega) fun r c d0 r1 r2 c1 c2 l0 => ?_
  simp
  refine pick_W l0 (by omega) (by omega) (by omega) fun v1 d1 a1 b1 l1 => ?_
  simp
  refine ixi_W 1 32 a1 b1 (by simp) fun w w1 w2 => ?_
  simp
  refine pick_W l1 (by omega) (by omega) (by omega) fun v2 d2 a2 b2 l2 => ?_
  simp
  have m1 : sml r := sml_of (by omega) (by omega)
  have k0 : 0 < 1 + v2 := by omega
  have k2 : 1 + v2 < 1073741824 := by omega
  simp [m1, k0, k2]
  refine pick_W l2 (by omega) (by omega) (by omega) fun v3 d3 a3 b3 l3 => ?_
  simp
  rw [Int.neg_mul]
  have hx := mul_bd r1 r2 c1 c2
  obtain ⟨q1, q2, q3⟩ := ceil_bd (x := r * c) (k := 1 + v2) (by omega) hx.1
  refine raise_W (kk := 1 + v2) (m := 32) (fun q => [.io 1 d3, .val (.int r), .val (.int c), .val (.int (1 + v2)), .val (.int q), .un]) (by omega) (by omega) (by omega) ?_ fun q h1 h2 h3 => ?_
  · intro j q q1 q2
    simp
    rw [gcd_ok (by omega) (by omega) (by omega)]
    simp
    by_cases hg : 1 < Int.gcd (1 + v2) q
    · have : (1 : Int) < ((Int.gcd (1 + v2) q : Nat) : Int) := by omega
      simp [this, hg]
    · have : ¬ (1 : Int) < ((Int.gcd (1 + v2) q : Nat) : Int) := by omega
      simp [this, hg]
  simp
  refine k r c (1 + v2) q _ r1 r2 c1 c2 (by omega) (by omega) (by omega) (by omega) h3 ?_ l3
  have := Int.mul_le_mul_of_nonneg_left (show -(-(r * c) / (1 + v2)) ≤ q by omega) (show 0 ≤ 1 + v2 by omega)
  omega
/-- a comprehension of draws: each item takes at most c of them -/
theorem W_compLS {α : Type} {C : Calls} {e t cs own} (enc : α → D) (env : D → Env) (P : D → Prop) (c : Nat) {xs : List α} {ds : List D} {d0 : D} {b : Nat} {Q : List D × Env → Prop} (hd : ds = xs.map enc) (h0 : LSd d0 b)
    (hs : ∀ x d b' (K : Option D × Env → Prop), x ∈ xs → LSd d b' → b' + c ≤ b + c * xs.length → (∀ v d', P v → LSd d' (b' + c) → K (some v, env d')) → W (cB C G e t cs own (enc x) (env d)) K)
    (k : ∀ l d', l.length = xs.length → (∀ v ∈ l, P v) → LSd d' (b + c * xs.length) → Q (l, env d')) : W (compB C G e t cs own ds (env d0)) Q := by
  refine W_comp (C := C) (G := G) (e := e) (t := t) (cs := cs) (own := own) enc (fun l acc ρ => ∃ d b', ρ = env d ∧ LSd d b' ∧ b' + c * l.length = b + c * xs.length ∧ acc.length + l.length = xs.length ∧ ∀ v ∈ acc, P v) hd ⟨d0, b, rfl, h0, rfl, by simp, by simp⟩ ?_ ?_
  · rintro x l acc _ hx ⟨d, b', rfl, hl, hb, hn, hp⟩
    simp only [List.length_cons, Nat.mul_add, Nat.mul_one] at hb hn
    refine hs x d b' _ hx hl (by omega) fun v d' pv l' => ?_
    refine ⟨d', b' + c, rfl, l', by omega, by simp; omega, ?_⟩
    intro w hw
    simp at hw
    exact hw.elim (hp w) fun h => h ▸ pv
  · rintro acc _ ⟨d, b', rfl, hl, hb, hn, hp⟩
    simp at hb hn
    exact k acc d hn hp (hb ▸ hl)
theorem ex_map {α : Type} {f : α → D} {R : α → Prop} : ∀ {l : List D}, (∀ v ∈ l, ∃ a, v = f a ∧ R a) → ∃ as : List α, l = as.map f ∧ as.length = l.length ∧ ∀ a ∈ as, R a
  | [], _ => ⟨[], rfl, rfl, by simp⟩
  | v :: l, h => by
    obtain ⟨a, rfl, r⟩ := h v (List.mem_cons_self ..)
    obtain ⟨as, e, n, q⟩ := ex_map (l := l) fun w hw => h w (List.mem_cons_of_mem _ hw)
    refine ⟨a :: as, by rw [e]; rfl, by simp [n], ?_⟩
    intro b hb
    simp at hb
    exact hb.elim (fun h => h ▸ r) (q b)
theorem ixD_pow {l : List D} {v : Int} (h0 : 0 ≤ v) (h1 : v < l.length) (hl : l = (List.range l.length).map fun (t : Nat) => PyData.int (2 ^ t) := by rfl) : ixD l v = some (.int (2 ^ v.toNat)) := by
  rw [ixD_int h0 h1, hl, List.getElem?_map, List.getElem?_range (by omega)]
  rfl
/-- what the draws give -/
structure Deal.Drawn (d : Deal) : Prop extends d.Good where
  ti : d.Tight
  r16 : d.nr ≤ 16
  c16 : d.nc ≤ 16
  k32 : d.nb ≤ 32
theorem bits_W [C_117 T] {d : D} {b : Nat} {m : Nat} {Q : D × List R → Prop} (h : LSd d b) (hb : b < 1000000) (hm : m ≤ 4)
    (k : ∀ x y ms d', x ≤ m → y ≤ m → ms.length ≤ 5 → (∀ z ∈ ms, z < 2 ^ (x + y)) → LSd d' (b + 9) → Q ((Deal.bits x y ms).enc, [.io 1 d', .un])) : W (callN T G (n + 4) 117 [.io 1 d, .val (.int m)]) Q := by
  rw [q_117]
  simp [bd_117]
  refine pick_W h (by omega) (by omega) (by omega) fun v1 d1 a1 b1 l1 => ?_
  simp
  refine pick_W l1 (by omega) (by omega) (by omega) fun v2 d2 a2 b2 l2 => ?_
  simp
  refine pick_W l2 (by omega) (by omega) (by omega) fun v3 d3 a3 b3 l3 => ?_
  simp
  simp [rngOk_of (show -16777216 ≤ v3 by omega) (show v3 ≤ 16777216 by omega)]
  refine W_compLS (fun k : Nat => PyData.int k) (fun d => [.io 1 d, .val (.int m), .val (.int v1), .val (.int v2), .un, .un, .un, .un]) (fun v => ∃ z : Nat, v = .int (z : Nat) ∧ True) 1 upTo0_map l3 ?_ ?_
  · intro x d b' K hx hl hb' hK
    simp at hb'
    simp
    refine pick_W hl (by omega) (by omega) (by omega) fun v d' a0 b0 l' => ?_
    simp
    exact hK _ _ ⟨v.toNat, by simp; omega, trivial⟩ l'
  intro l d' hl hp l4
  obtain ⟨zs, rfl, hz, _⟩ := ex_map hp
  simp at hl l4
  clear hp
  simp
  rw [ixD_pow (by omega) (by simp; omega)]
  simp
  obtain ⟨x, rfl⟩ : ∃ x : Nat, v1 = x := ⟨v1.toNat, by omega⟩
  obtain ⟨y, rfl⟩ : ∃ y : Nat, v2 = y := ⟨v2.toNat, by omega⟩
  have ep : (2 : Int) ^ ((x : Int) + y).toNat = ((2 ^ (x + y) : Nat) : Int) := by rw [show ((x : Int) + y).toNat = x + y by omega]; push_cast; rfl
  rw [ep]
  have hp : 0 < 2 ^ (x + y) := Nat.pow_pos (by decide)
  rw [comp_map' (fun z : Nat => PyData.int z) (fun z => .int ((z % 2 ^ (x + y) : Nat) : Int)) rfl (by
    intro z hz
    have : (0 : Int) < ((2 ^ (x + y) : Nat) : Int) := by omega
    generalize 2 ^ (x + y) = w at *
    simp [this, hp])]
  simp
  have := k x y (zs.map fun z => z % 2 ^ (x + y)) d' (by omega) (by omega) (by simp; omega) (by
    intro z hz
    simp at hz
    obtain ⟨w, _, rfl⟩ := hz
    exact Nat.mod_lt _ hp) (l4.mono (by omega))
  simpa [Deal.enc, masksD, Function.comp_def] using this
theorem table_W [C_118 T] {d : D} {b : Nat} {Q : D × List R → Prop} (h : LSd d b) (hb : b < 1000000)
    (k : ∀ kk rows d', (Deal.table kk rows).Drawn → LSd d' (b + 300) → Q ((Deal.table kk rows).enc, [.io 1 d'])) : W (callN T G (n + 4) 118 [.io 1 d]) Q := by
  rw [q_118]
  simp [bd_118]
  refine sides_W h (by omega) fun r c d0 r1 r2 c1 c2 l0 => ?_
  simp
  refine pick_W l0 (by omega) (by omega) (by omega) fun v1 d1 a1 b1 l1 => ?_
  simp
  refine ixi_W 1 32 a1 b1 (by simp) fun w w1 w2 => ?_
  simp
  refine pick_W l1 (by omega) (by omega) (by omega) fun v2 d2 a2 b2 l2 => ?_
  simp [rngOk_of (show -16777216 ≤ r by omega) (show r ≤ 16777216 by omega)]
  refine W_compLS (fun k : Nat => PyData.int k) (fun d => [.io 1 d, .val (.int r), .val (.int c), .val (.int (1 + v2)), .un, .un, .un]) (fun v => ∃ row : List Int, v = rowD row ∧ (row.length = c.toNat ∧ ∀ x ∈ row, 0 ≤ x ∧ x < 1 + v2)) 16 upTo0_map l2 ?_ ?_
  · intro x d b' K hx hl hb' hK
    simp at hb'
    simp [rngOk_of (show -16777216 ≤ c by omega) (show c ≤ 16777216 by omega)]
    refine W_compLS (fun k : Nat => PyData.int k) (fun d => [.io 1 d, .val (.int r), .val (.int c), .val (.int (1 + v2)), .val (.int x), .un, .un]) (fun v => ∃ z : Int, v = .int z ∧ (0 ≤ z ∧ z < 1 + v2)) 1 upTo0_map hl ?_ ?_
    · intro x d b'' K hx hl hb'' hK
      simp at hb''
      simp
      refine pick_W hl (by omega) (by omega) (by omega) fun v d' a0 b0 l' => ?_
      simp
      exact hK _ _ ⟨v, rfl, a0, b0⟩ l'
    intro l d' hl hp l4
    obtain ⟨row, rfl, hn, hz⟩ := ex_map hp
    simp at hl l4
    simp
    exact hK _ _ ⟨row, rfl, hl, hz⟩ (l4.mono (by omega))
  intro l d' hl hp l4
  obtain ⟨rows, rfl, hn, hz⟩ := ex_map hp
  simp at hl l4
  simp
  have hd : (rows.headD []).length = c.toNat := by
    cases rows with
    | nil => simp at hl; omega
    | cons r0 rs => exact (hz r0 (List.mem_cons_self ..)).1
  refine k (1 + v2) rows d' ⟨⟨⟨by omega, ?_, ?_, fun r hr => ⟨by rw [hd]; exact (hz r hr).1, (hz r hr).2⟩⟩, ⟨by omega, by omega, by omega⟩, by simp [Deal.dep]⟩, trivial, ?_, ?_, ?_⟩ (l4.mono (by omega))
  · intro e; subst e; simp at hl; omega
  · intro e; rw [e] at hd; simp at hd; omega
  · simp only [Deal.nr]; omega
  · simp only [Deal.nc]; omega
  · simp only [Deal.nb]; omega
theorem small_W [C_119 T] {d : D} {b : Nat} {Q : D × List R → Prop} (h : LSd d b) (hb : b < 1000000)
    (k : ∀ (dl : Deal) d', dl.Good → dl.Tight → dl.dep = 0 → dl.nr ≤ 4 → dl.nc ≤ 4 → dl.nb ≤ 5 → LSd d' (b + 30) → Q (dl.enc, [.io 1 d'])) : W (callN T G (n + 4) 119 [.io 1 d]) Q := by
  rw [q_119]
  simp [bd_119]
  refine pick_W h (by omega) (by omega) (by omega) fun v1 d1 a1 b1 l1 => ?_
  simp
  refine pick_W l1 (by omega) (by omega) (by omega) fun v2 d2 a2 b2 l2 => ?_
  simp
  refine pick_W l2 (by omega) (by omega) (by omega) fun v3 d3 a3 b3 l3 => ?_
  simp
  refine pick_W l3 (by omega) (by omega) (by omega) fun v4 d4 a4 b4 l4 => ?_
  simp
  refine .cnd (fun hw => ?_) fun hw => ?_
  · simp
    refine pick_W l4 (by omega) (by omega) (by omega) fun v5 d5 a5 b5 l5 => ?_
    simp
    refine pick_W l5 (by omega) (by omega) (by omega) fun v6 d6 a6 b6 l6 => ?_
    simp
    exact k (.skew (1 + v1) (1 + v2) (1 + v3) v5 v6) d6 ⟨⟨by omega, by omega, by omega, a5, a6⟩, ⟨by omega, by omega, by omega, by omega, by omega⟩, by simp [Deal.dep]⟩ trivial rfl (by simp only [Deal.nr]; omega) (by simp only [Deal.nc]; omega) (by simp only [Deal.nb]; omega) (l6.mono (by omega))
  simp
  refine .cnd (fun hw => ?_) fun hw => ?_
  · simp
    refine pick_W l4 (by omega) (by omega) (by omega) fun v5 d5 a5 b5 l5 => ?_
    simp
    refine pick_W l5 (by omega) (by omega) (by omega) fun v6 d6 a6 b6 l6 => ?_
    simp
    refine pick_W l6 (by omega) (by omega) (by omega) fun v7 d7 a7 b7 l7 => ?_
    simp
    simp [rngOk_of (show -16777216 ≤ v7 by omega) (show v7 ≤ 16777216 by omega)]
    refine W_compLS (fun k : Nat => PyData.int k) (fun d => [.io 1 d, .val (.int (1 + v1)), .val (.int (1 + v2)), .val (.int (1 + v3)), .val (.int v4), .val (.int v5), .val (.int v6), .un, .un, .un, .un, .un, .un, .un, .un, .un]) (fun v => ∃ z : Nat, v = .int (z : Nat) ∧ True) 1 upTo0_map l7 ?_ ?_
    · intro x d b' K hx hl hb' hK
      simp at hb'
      simp
      refine pick_W hl (by omega) (by omega) (by omega) fun v d' a0 b0 l' => ?_
      simp
      exact hK _ _ ⟨v.toNat, by simp; omega, trivial⟩ l'
    intro l d' hl hp l8
    obtain ⟨zs, rfl, hz, _⟩ := ex_map hp
    simp at hl l8
    clear hp
    simp
    rw [ixD_pow (by omega) (by simp; omega)]
    simp
    obtain ⟨x, rfl⟩ : ∃ x : Nat, v5 = x := ⟨v5.toNat, by omega⟩
    obtain ⟨y, rfl⟩ : ∃ y : Nat, v6 = y := ⟨v6.toNat, by omega⟩
    have ep : (2 : Int) ^ ((x : Int) + y).toNat = ((2 ^ (x + y) : Nat) : Int) := by rw [show ((x : Int) + y).toNat = x + y by omega]; push_cast; rfl
    rw [ep]
    have hp : 0 < 2 ^ (x + y) := Nat.pow_pos (by decide)
    rw [comp_map' (fun z : Nat => PyData.int z) (fun z => .int ((z % 2 ^ (x + y) : Nat) : Int)) rfl (by
      intro z hz
      have : (0 : Int) < ((2 ^ (x + y) : Nat) : Int) := by omega
      generalize 2 ^ (x + y) = w at *
      simp [this, hp])]
    simp
    have hx4 : (2 : Int) ^ x ≤ 4 := Deal.two_le (n := x) (m := 2) (by omega)
    have hy4 : (2 : Int) ^ y ≤ 4 := Deal.two_le (n := y) (m := 2) (by omega)
    have hm4 : (2 : Int) ^ zs.length ≤ 4 := Deal.two_le (n := zs.length) (m := 2) (by omega)
    have := k (.bits x y (zs.map fun z => z % 2 ^ (x + y))) d' ⟨by
      intro z hz
      simp at hz
      obtain ⟨w, _, rfl⟩ := hz
      exact Nat.mod_lt _ hp, ⟨by omega, by simp; omega⟩, by simp [Deal.dep]⟩ ⟨by omega, by simp; omega, by omega, by omega⟩ rfl hx4 hy4 (by simp [Deal.nb]; omega) (l8.mono (by omega))
    simpa [Deal.enc, masksD, Function.comp_def] using this
  simp
  refine .cnd (fun hw => ?_) fun hw => ?_
  · have m1 : sml (1 + v1) := sml_of (by omega) (by omega)
    have k0 : 0 < 1 + v3 := by omega
    have k2 : 1 + v3 < 1073741824 := by omega
    simp [m1, k0, k2]
    refine pick_W l4 (by omega) (by omega) (by omega) fun v5 d5 a5 b5 l5 => ?_
    simp
    rw [Int.neg_mul]
    have hx := mul_bd (show 1 ≤ 1 + v1 by omega) (show 1 + v1 ≤ 4 by omega) (show 1 ≤ 1 + v2 by omega) (show 1 + v2 ≤ 4 by omega)
    obtain ⟨q1, q2, q3⟩ := ceil_bd (x := (1 + v1) * (1 + v2)) (k := 1 + v3) (by omega) hx.1
    refine raise_W (kk := 1 + v3) (m := 9) (fun q => [.io 1 d5, .val (.int (1 + v1)), .val (.int (1 + v2)), .val (.int (1 + v3)), .val (.int v4), .un, .un, .un, .un, .un, .un, .val (.int q), .un, .un, .un, .un]) (by omega) (by omega) (by omega) ?_ fun q h1 h2 h3 => ?_
    · intro j q q1 q2
      simp
      rw [gcd_ok (by omega) (by omega) (by omega)]
      simp
      by_cases hg : 1 < Int.gcd (1 + v3) q
      · have : (1 : Int) < ((Int.gcd (1 + v3) q : Nat) : Int) := by omega
        simp [this, hg]
      · have : ¬ (1 : Int) < ((Int.gcd (1 + v3) q : Nat) : Int) := by omega
        simp [this, hg]
    simp
    have := Int.mul_le_mul_of_nonneg_left (show -(-((1 + v1) * (1 + v2)) / (1 + v3)) ≤ q by omega) (show 0 ≤ 1 + v3 by omega)
    exact k (.rests (1 + v1) (1 + v2) (1 + v3) q) d5 ⟨⟨by omega, by omega, by omega, by omega, h3, by omega⟩, ⟨by omega, by omega, by omega, by omega⟩, by simp [Deal.dep]⟩ trivial rfl (by simp only [Deal.nr]; omega) (by simp only [Deal.nc]; omega) (by simp only [Deal.nb]; omega) (l5.mono (by omega))
  simp [rngOk_of (show -16777216 ≤ 1 + v1 by omega) (show 1 + v1 ≤ 16777216 by omega)]
  refine W_compLS (fun k : Nat => PyData.int k) (fun d => [.io 1 d, .val (.int (1 + v1)), .val (.int (1 + v2)), .val (.int (1 + v3)), .val (.int v4), .un, .un, .un, .un, .un, .un, .un, .un, .un, .un, .un]) (fun v => ∃ row : List Int, v = rowD row ∧ (row.length = (1 + v2).toNat ∧ ∀ x ∈ row, 0 ≤ x ∧ x < 1 + v3)) 4 upTo0_map l4 ?_ ?_
  · intro x d b' K hx hl hb' hK
    simp at hb'
    simp [rngOk_of (show -16777216 ≤ 1 + v2 by omega) (show 1 + v2 ≤ 16777216 by omega)]
    refine W_compLS (fun k : Nat => PyData.int k) (fun d => [.io 1 d, .val (.int (1 + v1)), .val (.int (1 + v2)), .val (.int (1 + v3)), .val (.int v4), .un, .un, .un, .un, .un, .un, .un, .un, .val (.int x), .un, .un]) (fun v => ∃ z : Int, v = .int z ∧ (0 ≤ z ∧ z < 1 + v3)) 1 upTo0_map hl ?_ ?_
    · intro x d b'' K hx hl hb'' hK
      simp at hb''
      simp
      refine pick_W hl (by omega) (by omega) (by omega) fun v d' a0 b0 l' => ?_
      simp
      exact hK _ _ ⟨v, rfl, a0, b0⟩ l'
    intro l d' hl hp l4
    obtain ⟨row, rfl, hn, hz⟩ := ex_map hp
    simp at hl l4
    simp
    exact hK _ _ ⟨row, rfl, hl, hz⟩ (l4.mono (by omega))
  intro l d' hl hp l4
  obtain ⟨rows, rfl, hn, hz⟩ := ex_map hp
  simp at hl l4
  simp
  have hd : (rows.headD []).length = (1 + v2).toNat := by
    cases rows with
    | nil => simp at hl; omega
    | cons r0 rs => exact (hz r0 (List.mem_cons_self ..)).1
  refine k (.table (1 + v3) rows) d' ⟨⟨by omega, ?_, ?_, fun r hr => ⟨by rw [hd]; exact (hz r hr).1, (hz r hr).2⟩⟩, ⟨by omega, by omega, by omega⟩, by simp [Deal.dep]⟩ trivial rfl ?_ ?_ ?_ (l4.mono (by omega))
  · intro e; subst e; simp at hl; omega
  · intro e; rw [e] at hd; simp at hd; omega
  · simp only [Deal.nr]; omega
  · simp only [Deal.nc]; omega
  · simp only [Deal.nb]; omega
theorem join_good {a b : Deal} (ga : a.Good) (gb : b.Good) (ha : a.dep ≤ 2) (hb : b.dep ≤ 2) (hr : a.nr * b.nr ≤ 1048576) (hc : a.nc * b.nc ≤ 1048576) (hk : a.nb * b.nb ≤ 1048576) : (Deal.joined a b).Good :=
  ⟨⟨ga.ok, gb.ok⟩, ⟨ga.sm, gb.sm, hr, hc, hk⟩, by simp only [Deal.dep]; omega⟩
theorem mul_le_lit {x y : Int} (X Y : Int) (x0 : 0 ≤ x) (y0 : 0 ≤ y) (hx : x ≤ X) (hy : y ≤ Y) : x * y ≤ X * Y :=
  Int.le_trans (Int.mul_le_mul_of_nonneg_right hx y0) (Int.mul_le_mul_of_nonneg_left hy (by omega))
theorem dealing_W [C_120 T] {d : D} {b : Nat} {Q : D × List R → Prop} (h : LSd d b) (hb : b < 900000)
    (k : ∀ (dl : Deal) d', dl.Drawn → LSd d' (b + 400) → Q (dl.enc, [.io 1 d'])) : W (callN T G (n + 5) 120 [.io 1 d]) Q := by
  rw [q_120]
  simp [bd_120]
  refine pick_W h (by omega) (by omega) (by omega) fun v1 d1 a1 b1 l1 => ?_
  simp
  refine .cnd (fun hw => ?_) fun hw => ?_
  · simp
    refine skew_W l1 (by omega) fun r c kk x y d' r1 r2 c1 c2 k1 k2 x1 x2 y1 y2 l2 => ?_
    simp
    exact k _ d' ⟨⟨⟨r1, c1, k1, x1, y1⟩, ⟨by omega, by omega, by omega, by omega, by omega⟩, by simp [Deal.dep]⟩, trivial, r2, c2, k2⟩ (l2.mono (by omega))
  simp
  refine .cnd (fun hw => ?_) fun hw => ?_
  · simp
    refine rests_W l1 (by omega) fun r c kk p d' r1 r2 c1 c2 k1 k2 p1 p2 g1 g2 l2 => ?_
    simp
    exact k _ d' ⟨⟨⟨r1, c1, k1, p1, g1, g2⟩, ⟨by omega, by omega, by omega, by omega⟩, by simp [Deal.dep]⟩, trivial, r2, c2, k2⟩ (l2.mono (by omega))
  simp
  refine .cnd (fun hw => ?_) fun hw => ?_
  · simp
    refine bits_W (m := 4) l1 (by omega) (by omega) fun x y ms d' hx hy hm hz l2 => ?_
    simp
    have hx4 : (2 : Int) ^ x ≤ 16 := Deal.two_le (n := x) (m := 4) (by omega)
    have hy4 : (2 : Int) ^ y ≤ 16 := Deal.two_le (n := y) (m := 4) (by omega)
    have hm4 : (2 : Int) ^ ms.length ≤ 32 := Deal.two_le (n := ms.length) (m := 5) (by omega)
    exact k _ d' ⟨⟨hz, ⟨by omega, by omega⟩, by simp [Deal.dep]⟩, ⟨by omega, by omega, by omega, by omega⟩, hx4, hy4, hm4⟩ (l2.mono (by omega))
  simp
  refine .cnd (fun hw => ?_) fun hw => ?_
  · simp
    refine table_W l1 (by omega) fun kk rows d' g l2 => ?_
    simp
    exact k _ d' g (l2.mono (by omega))
  simp
  refine .cnd (fun hw => ?_) fun hw => ?_
  · simp
    refine pick_W l1 (by omega) (by omega) (by omega) fun v2 d2 a2 b2 l2 => ?_
    simp
    refine small_W l2 (by omega) fun s1 d3 g1 t1 p1 r1 c1 k1 l3 => ?_
    simp
    refine small_W l3 (by omega) fun s2 d4 g2 t2 p2 r2 c2 k2 l4 => ?_
    simp [sizeOk]
    refine pick_W l4 (by omega) (by omega) (by omega) fun v3 d5 a3 b3 l5 => ?_
    simp
    have gs : ∀ r c k x y : Int, 1 ≤ r → r ≤ 16 → 1 ≤ c → c ≤ 16 → 1 ≤ k → k ≤ 32 → 0 ≤ x → x ≤ 9 → 0 ≤ y → y ≤ 9 → (Deal.skew r c k x y).Good := fun r c k x y r1 r2 c1 c2 k1 k2 x1 x2 y1 y2 => ⟨⟨r1, c1, k1, x1, y1⟩, ⟨by omega, by omega, by omega, by omega, by omega⟩, by simp [Deal.dep]⟩
    have gt : (Deal.table 2 [[1, 0]]).Good := ⟨⟨by omega, by simp, by simp, by simp⟩, ⟨by omega, by simp, by simp⟩, by simp [Deal.dep]⟩
    have gi : (Deal.joined (.skew (1 + v2) 1 2 1 1) (.table 2 [[1, 0]])).Good := join_good (gs _ _ _ _ _ (by omega) (by omega) (by omega) (by omega) (by omega) (by omega) (by omega) (by omega) (by omega) (by omega)) gt (by simp [Deal.dep]) (by simp [Deal.dep]) (by simp [Deal.nr]; omega) (by simp [Deal.nc]) (by simp [Deal.nb])
    have ni : (Deal.joined (.skew (1 + v2) 1 2 1 1) (.table 2 [[1, 0]])).nr = 1 + v2 ∧ (Deal.joined (.skew (1 + v2) 1 2 1 1) (.table 2 [[1, 0]])).nc = 2 ∧ (Deal.joined (.skew (1 + v2) 1 2 1 1) (.table 2 [[1, 0]])).nb = 4 := ⟨by simp [Deal.nr], by simp [Deal.nc], by simp [Deal.nb]⟩
    have ti : (Deal.joined (.skew (1 + v2) 1 2 1 1) (.table 2 [[1, 0]])).Tight := ⟨trivial, trivial⟩
    have di : (Deal.joined (.skew (1 + v2) 1 2 1 1) (.table 2 [[1, 0]])).dep = 1 := rfl
    have ei : (Deal.joined (.skew (1 + v2) 1 2 1 1) (.table 2 [[1, 0]])).enc = .tuple [.str "joined", .tuple [.str "skew", .int (1 + v2), .int 1, .int 2, .int 1, .int 1], .tuple [.str "table", .int 2, .tuple [.tuple [.int 1, .int 0]]]] := rfl
    generalize Deal.joined (.skew (1 + v2) 1 2 1 1) (.table 2 [[1, 0]]) = inner at *
    obtain ⟨n1, n2, n3⟩ := ni
    have q1 := Deal.pos g1.ok
    have q2 := Deal.pos g2.ok
    have g3 : (Deal.joined (.skew 8 1 3 1 1) (.rests 2 16 5 7)).Drawn := ⟨join_good (gs _ _ _ _ _ (by omega) (by omega) (by omega) (by omega) (by omega) (by omega) (by omega) (by omega) (by omega) (by omega)) ⟨⟨by omega, by omega, by omega, by omega, by decide, by omega⟩, ⟨by omega, by omega, by omega, by omega⟩, by simp [Deal.dep]⟩ (by simp [Deal.dep]) (by simp [Deal.dep]) (by simp [Deal.nr]) (by simp [Deal.nc]) (by simp [Deal.nb]), ⟨trivial, trivial⟩, by simp [Deal.nr], by simp [Deal.nc], by simp [Deal.nb]⟩
    have g4 : (Deal.joined (.rests 1 8 3 4) (.skew 16 2 5 2 1)).Drawn := ⟨join_good ⟨⟨by omega, by omega, by omega, by omega, by decide, by omega⟩, ⟨by omega, by omega, by omega, by omega⟩, by simp [Deal.dep]⟩ (gs _ _ _ _ _ (by omega) (by omega) (by omega) (by omega) (by omega) (by omega) (by omega) (by omega) (by omega) (by omega)) (by simp [Deal.dep]) (by simp [Deal.dep]) (by simp [Deal.nr]) (by simp [Deal.nc]) (by simp [Deal.nb]), ⟨trivial, trivial⟩, by simp [Deal.nr], by simp [Deal.nc], by simp [Deal.nb]⟩
    have u1 := mul_le_lit 2 4 (by omega) (by omega) (show inner.nr ≤ 2 by omega) r1
    have u2 := mul_le_lit 2 4 (by omega) (by omega) (show inner.nc ≤ 2 by omega) c1
    have u3 := mul_le_lit 4 5 (by omega) (by omega) (show inner.nb ≤ 4 by omega) k1
    have w1 := mul_le_lit 4 2 (by omega) (by omega) r2 (show inner.nr ≤ 2 by omega)
    have w2 := mul_le_lit 4 2 (by omega) (by omega) c2 (show inner.nc ≤ 2 by omega)
    have w3 := mul_le_lit 5 4 (by omega) (by omega) k2 (show inner.nb ≤ 4 by omega)
    have gg1 : (Deal.joined inner s1).Drawn := ⟨join_good gi g1 (by omega) (by omega) (by omega) (by omega) (by omega), ⟨ti, t1⟩, by simp only [Deal.nr]; omega, by simp only [Deal.nc]; omega, by simp only [Deal.nb]; omega⟩
    have gg2 : (Deal.joined s2 inner).Drawn := ⟨join_good g2 gi (by omega) (by omega) (by omega) (by omega) (by omega), ⟨t2, ti⟩, by simp only [Deal.nr]; omega, by simp only [Deal.nc]; omega, by simp only [Deal.nb]; omega⟩
    refine ixl_W (fun x => ∃ dl : Deal, x = dl.enc ∧ dl.Drawn) a3 b3 ?_ fun x ⟨dl, e, g⟩ => ?_
    · intro x hx
      rw [← ei] at hx
      simp at hx
      rcases hx with rfl | rfl | rfl | rfl
      · exact ⟨_, rfl, gg1⟩
      · exact ⟨_, rfl, gg2⟩
      · exact ⟨_, rfl, g3⟩
      · exact ⟨_, rfl, g4⟩
    subst e
    simp
    exact k dl d5 g (l5.mono (by omega))
  simp
  refine small_W l1 (by omega) fun s1 d3 g1 t1 p1 r1 c1 k1 l3 => ?_
  simp
  refine small_W l3 (by omega) fun s2 d4 g2 t2 p2 r2 c2 k2 l4 => ?_
  simp
  have q1 := Deal.pos g1.ok
  have q2 := Deal.pos g2.ok
  have u1 := mul_le_lit 4 4 (by omega) (by omega) r1 r2
  have u2 := mul_le_lit 4 4 (by omega) (by omega) c1 c2
  have u3 := mul_le_lit 5 5 (by omega) (by omega) k1 k2
  exact k (.joined s1 s2) d4 ⟨join_good g1 g2 (by omega) (by omega) (by omega) (by omega) (by omega), ⟨t1, t2⟩, u1, u2, by simp only [Deal.nb]; omega⟩ (l4.mono (by omega))
end
end BW

namespace BW
open PySem PySem.Spec PyProof.Rows L2
open scoped BW.Ev
/-! BwV4: the laws' own look at dealings; things alike, kind by kind. -/
/-- 126: size -/
def bd_126 : Sms := (.cons (.ite (.cmp .mem (.idx (.var 0) (.int 0)) (.tup (.cons (.str (("skew" : PySem.Str))) (.cons (.str (("rests" : PySem.Str))) .nil)))) (.cons (.ret (.slc (.var 0) (.cons (.int 1) .nil) (.cons (.int 4) .nil))) .nil) .nil []) (.cons (.ite (.cmp .eq (.idx (.var 0) (.int 0)) (.str (("bits" : PySem.Str)))) (.cons (.asg 0 1 (.lst (.cons (.int 1) (.cons (.int 2) (.cons (.int 4) (.cons (.int 8) (.cons (.int 16) (.cons (.int 32) (.cons (.int 64) (.cons (.int 128) (.cons (.int 256) (.cons (.int 512) .nil)))))))))))) (.cons (.ret (.tup (.cons (.idx (.var 1) (.idx (.var 0) (.int 1))) (.cons (.idx (.var 1) (.idx (.var 0) (.int 2))) (.cons (.idx (.var 1) (.blt .len (.idx (.var 0) (.int 3)))) .nil))))) .nil)) .nil [1]) (.cons (.ite (.cmp .eq (.idx (.var 0) (.int 0)) (.str (("table" : PySem.Str)))) (.cons (.ret (.tup (.cons (.blt .len (.idx (.var 0) (.int 2))) (.cons (.blt .len (.idx (.idx (.var 0) (.int 2)) (.int 0))) (.cons (.idx (.var 0) (.int 1)) .nil))))) .nil) .nil []) (.cons (.par 2 3 (.call 126 (.cons (.idx (.var 0) (.int 1)) .nil)) (.call 126 (.cons (.idx (.var 0) (.int 2)) .nil)) 0 0) (.cons (.ret (.blt .tuple (.comp (.bin .mul (.var 4) (.var 5)) (.tup (.cons (.var 4) (.cons (.var 5) .nil))) (.zip (.var 2) (.var 3)) .nil [4, 5]))) .nil)))))
def m_126 : MDef := ⟨1, 6, 0, bd_126⟩
class C_126 (T : Tab) : Prop where
  h_126 : T 126 = some m_126
theorem q_126 {T : Tab} {G : Nat → D} {n : Nat} [C_126 T] {a0 : R} : callN T G (n + 1) 126 [a0] = bnd (evSs (callN T G n) G (ownT T) bd_126 [a0, .un, .un, .un, .un, .un]) (endOf 1) := by
  rw [callN_at (C_126.h_126 (T := T))]
  rfl
@[scoped simp] theorem Ev.own_126 {T : Tab} [C_126 T] : ownT T 126 = 0 := ownT_at (C_126.h_126 (T := T))
/-- 134: odd -/
def bd_134 : Sms := (.cons (.asg 0 1 (.bl false)) (.cons (.for_ (.var 2) (.rng (.int 9)) (.cons (.asg 0 1 (.cmp .ne (.var 1) (.cmp .eq (.bin .mod (.bin .fdiv (.var 0) (.idx (.lst (.cons (.int 1) (.cons (.int 2) (.cons (.int 4) (.cons (.int 8) (.cons (.int 16) (.cons (.int 32) (.cons (.int 64) (.cons (.int 128) (.cons (.int 256) .nil)))))))))) (.var 2))) (.int 2)) (.int 1)))) .nil) [2]) (.cons (.ret (.var 1)) .nil)))
def m_134 : MDef := ⟨1, 3, 0, bd_134⟩
class C_134 (T : Tab) : Prop where
  h_134 : T 134 = some m_134
theorem q_134 {T : Tab} {G : Nat → D} {n : Nat} [C_134 T] {a0 : R} : callN T G (n + 1) 134 [a0] = bnd (evSs (callN T G n) G (ownT T) bd_134 [a0, .un, .un]) (endOf 1) := by
  rw [callN_at (C_134.h_134 (T := T))]
  rfl
@[scoped simp] theorem Ev.own_134 {T : Tab} [C_134 T] : ownT T 134 = 0 := ownT_at (C_134.h_134 (T := T))
/-- 135: bank -/
def bd_135 : Sms := (.cons (.asgT (.cons (.var 3) (.cons (.var 4) (.cons (.var 5) .nil))) (.call 126 (.cons (.var 0) .nil))) (.cons (.ite (.cmp .eq (.idx (.var 0) (.int 0)) (.str (("skew" : PySem.Str)))) (.cons (.ret (.bin .mod (.bin .add (.bin .mul (.idx (.var 0) (.int 4)) (.var 1)) (.bin .mul (.idx (.var 0) (.int 5)) (.var 2))) (.var 5))) .nil) .nil []) (.cons (.ite (.cmp .eq (.idx (.var 0) (.int 0)) (.str (("rests" : PySem.Str)))) (.cons (.ret (.bin .mod (.bin .add (.bin .mul (.var 1) (.var 4)) (.var 2)) (.var 5))) .nil) .nil []) (.cons (.ite (.cmp .eq (.idx (.var 0) (.int 0)) (.str (("bits" : PySem.Str)))) (.cons (.asg 0 8 (.comp (.idx (.lst (.cons (.int 1) (.cons (.int 2) (.cons (.int 4) (.cons (.int 8) (.cons (.int 16) .nil)))))) (.var 6)) (.tup (.cons (.var 6) (.cons (.var 7) .nil))) (.enum (.idx (.var 0) (.int 3))) (.cons (.call 134 (.cons (.bin .band (.bin .add (.bin .mul (.var 1) (.var 4)) (.var 2)) (.var 7)) .nil)) .nil) [6, 7])) (.cons (.ret (.blt .sum (.var 8))) .nil)) .nil [8]) (.cons (.ite (.cmp .eq (.idx (.var 0) (.int 0)) (.str (("table" : PySem.Str)))) (.cons (.ret (.idx (.idx (.idx (.var 0) (.int 2)) (.var 1)) (.var 2))) .nil) .nil []) (.cons (.asgT (.cons (.var 9) (.cons (.var 10) (.cons (.var 11) .nil))) (.call 126 (.cons (.idx (.var 0) (.int 2)) .nil))) (.cons (.ret (.bin .add (.bin .mul (.call 135 (.cons (.idx (.var 0) (.int 1)) (.cons (.bin .fdiv (.var 1) (.var 9)) (.cons (.bin .fdiv (.var 2) (.var 10)) .nil)))) (.var 11)) (.call 135 (.cons (.idx (.var 0) (.int 2)) (.cons (.bin .mod (.var 1) (.var 9)) (.cons (.bin .mod (.var 2) (.var 10)) .nil)))))) .nil)))))))
def m_135 : MDef := ⟨3, 12, 0, bd_135⟩
class C_135 (T : Tab) : Prop extends C_126 T, C_134 T where
  h_135 : T 135 = some m_135
theorem q_135 {T : Tab} {G : Nat → D} {n : Nat} [C_135 T] {a0 a1 a2 : R} : callN T G (n + 1) 135 [a0, a1, a2] = bnd (evSs (callN T G n) G (ownT T) bd_135 [a0, a1, a2, .un, .un, .un, .un, .un, .un, .un, .un, .un]) (endOf 3) := by
  rw [callN_at (C_135.h_135 (T := T))]
  rfl
@[scoped simp] theorem Ev.own_135 {T : Tab} [C_135 T] : ownT T 135 = 0 := ownT_at (C_135.h_135 (T := T))
/-- 127: words -/
def bd_127 : Sms := (.cons (.asgT (.cons (.var 1) (.cons (.var 2) (.cons (.var 3) .nil))) (.call 126 (.cons (.var 0) .nil))) (.cons (.asg 1 4 (.lst .nil)) (.cons (.for_ (.var 5) (.rng (.var 1)) (.cons (.mut 4 [] .extend (.cons (.comp (.tup (.cons (.var 5) (.cons (.var 6) .nil))) (.var 6) (.rng (.var 2)) .nil [6]) .nil)) .nil) [5]) (.cons (.ret (.var 4)) .nil))))
def m_127 : MDef := ⟨1, 7, 0, bd_127⟩
class C_127 (T : Tab) : Prop extends C_126 T where
  h_127 : T 127 = some m_127
theorem q_127 {T : Tab} {G : Nat → D} {n : Nat} [C_127 T] {a0 : R} : callN T G (n + 1) 127 [a0] = bnd (evSs (callN T G n) G (ownT T) bd_127 [a0, .un, .un, .un, .un, .un, .un]) (endOf 1) := by
  rw [callN_at (C_127.h_127 (T := T))]
  rfl
@[scoped simp] theorem Ev.own_127 {T : Tab} [C_127 T] : ownT T 127 = 0 := ownT_at (C_127.h_127 (T := T))
/-- 93: same -/
def bd_93 : Sms := (.cons (.ite (.isi (.var 1) [.list, .tuple] false) (.cons (.ite (.or (.cons (.cmp .ne (.isi (.var 0) [.list] true) (.isi (.var 1) [.list] true)) (.cons (.cmp .ne (.isi (.var 0) [.tuple] true) (.isi (.var 1) [.tuple] true)) .nil))) (.cons (.ret (.bl false)) .nil) .nil []) (.cons (.ret (.and (.cons (.cmp .eq (.blt .len (.var 0)) (.blt .len (.var 1))) (.cons (.blt .all (.comp (.call 93 (.cons (.var 2) (.cons (.var 3) .nil))) (.tup (.cons (.var 2) (.cons (.var 3) .nil))) (.zip (.var 0) (.var 1)) .nil [2, 3])) .nil)))) .nil)) .nil []) (.cons (.ite (.or (.cons (.cmp .isN (.var 1) .non) (.cons (.isi (.var 1) [.str, .bool] false) .nil))) (.cons (.ret (.and (.cons (.cmp .eq (.var 0) (.var 1)) (.cons (.cmp .eq (.isi (.var 0) [.bool] true) (.isi (.var 1) [.bool] true)) (.cons (.cmp .eq (.cmp .isN (.var 0) .non) (.cmp .isN (.var 1) .non)) .nil))))) .nil) .nil []) (.cons (.ret (.and (.cons (.isi (.var 0) [.int] true) (.cons (.not (.isi (.var 0) [.bool] true)) (.cons (.cmp .eq (.var 0) (.var 1)) .nil))))) .nil)))
def m_93 : MDef := ⟨2, 4, 0, bd_93⟩
class C_93 (T : Tab) : Prop where
  h_93 : T 93 = some m_93
theorem q_93 {T : Tab} {G : Nat → D} {n : Nat} [C_93 T] {a0 a1 : R} : callN T G (n + 1) 93 [a0, a1] = bnd (evSs (callN T G n) G (ownT T) bd_93 [a0, a1, .un, .un]) (endOf 2) := by
  rw [callN_at (C_93.h_93 (T := T))]
  rfl
@[scoped simp] theorem Ev.own_93 {T : Tab} [C_93 T] : ownT T 93 = 0 := ownT_at (C_93.h_93 (T := T))
/-- two in row: items zipped -/
theorem pc_mod2_shift (x : Nat) : pc x % 2 = (x % 2 + pc (x / 2)) % 2 := by rw [pc_half x]
section
variable {T : Tab} {G : Nat → D} {n : Nat}
theorem lsize_ok [C_126 T] : ∀ {d : Deal} {L : Nat}, d.Ok → d.Sm → d.Tight → d.dep + 1 ≤ L → callN T G L 126 [.val d.enc] = some (.tuple [.int d.nr, .int d.nc, .int d.nb], [.un])
  | .skew .., L, _, h, _, hL => by
    obtain ⟨n, rfl⟩ : ∃ n, L = n + 1 := ⟨L - 1, by omega⟩
    simp only [Deal.enc]
    rw [q_126]
    simp [bd_126, Deal.nr, Deal.nc, Deal.nb]
  | .rests .., L, _, h, _, hL => by
    obtain ⟨n, rfl⟩ : ∃ n, L = n + 1 := ⟨L - 1, by omega⟩
    simp only [Deal.enc]
    rw [q_126]
    simp [bd_126, Deal.nr, Deal.nc, Deal.nb]
  | .bits a b ms, L, _, ⟨h1, h2⟩, ⟨t1, t2, t3, t4⟩, hL => by
    obtain ⟨n, rfl⟩ : ∃ n, L = n + 1 := ⟨L - 1, by omega⟩
    simp only [Deal.enc]
    rw [q_126]
    simp [bd_126, masksD]
    rw [ixD_pow (by omega) (by simp; omega)]
    simp
    rw [ixD_pow (by omega) (by simp; omega)]
    simp
    rw [ixD_pow (by omega) (by simp; omega)]
    simp [Deal.nr, Deal.nc, Deal.nb]
  | .table k rows, L, ho, h, _, hL => by
    obtain ⟨n, rfl⟩ : ∃ n, L = n + 1 := ⟨L - 1, by omega⟩
    simp only [Deal.enc]
    cases rows with
    | nil => exact (ho.2.1 rfl).elim
    | cons r rs =>
      rw [q_126]
      simp [bd_126, rowsD, rowD, Deal.nr, Deal.nc, Deal.nb]
  | .joined a b, L, ⟨o1, o2⟩, ⟨h1, h2, h3, h4, h5⟩, ⟨t1, t2⟩, hL => by
    simp only [Deal.dep] at hL
    obtain ⟨n, rfl⟩ : ∃ n, L = n + 1 := ⟨L - 1, by omega⟩
    have l1 := Deal.le h1
    have p1 := Deal.pos o1
    have m1 : sml a.nr := sml_of (by omega) (by omega)
    have m2 : sml a.nc := sml_of (by omega) (by omega)
    have m3 : sml a.nb := sml_of (by omega) (by omega)
    have e1 := lsize_ok (d := a) (L := n) o1 h1 t1 (by omega)
    have e2 := lsize_ok (d := b) (L := n) o2 h2 t2 (by omega)
    simp only [Deal.enc]
    rw [q_126]
    simp [bd_126, e1, e2, zipD, m1, m2, m3, Deal.nr, Deal.nc, Deal.nb]
/-- the parity of the first bits -/
def par (x : Nat) : Nat → Bool
  | 0 => false
  | k + 1 => par x k != (x / 2 ^ k % 2 == 1)
theorem par_pc : ∀ (k x : Nat), x < 2 ^ k → par x k = (pc x % 2 == 1) := by
  have half : ∀ (k x : Nat), par x (k + 1) = ((x % 2 == 1) != par (x / 2) k) := by
    intro k
    induction k with
    | zero => intro x; simp [par]
    | succ k ih =>
      intro x
      rw [par, ih x, par]
      rw [show x / 2 ^ (k + 1) = x / 2 / 2 ^ k by rw [Nat.pow_succ', Nat.div_div_eq_div_mul]]
      simp
  intro k
  induction k with
  | zero => intro x h; have : x = 0 := by simpa using h
            subst this; rw [pc_zero]; rfl
  | succ k ih =>
    intro x h
    rw [half, ih (x / 2) (by rw [Nat.pow_succ] at h; omega), pc_half x]
    rcases Nat.mod_two_eq_zero_or_one x with h | h <;> rcases Nat.mod_two_eq_zero_or_one (pc (x / 2)) with h2 | h2 <;> simp [h, h2, Nat.add_mod]
theorem odd_ok [C_134 T] {x : Nat} (hx : x < 512) : callN T G (n + 1) 134 [.val (.int x)] = some (.bool (pc x % 2 == 1), [.un]) := by
  rw [q_134]
  simp [bd_134]
  rw [for_fold (fun (k : Nat) => PyData.int k) (fun s : Nat × Bool => [.val (.int x), .val (.bool s.2), .un]) (fun s k => (s.1 + 1, s.2 != (x / 2 ^ k % 2 == 1))) (fun _ => True) (xs := List.range 9) (s := (0, false)) upTo0_map trivial (fun y k hk _ => ⟨trivial, by
    simp at hk
    simp
    rw [ixD_pow (by omega) (by simp; omega)]
    simp
    have e : (2 : Int) ^ k = ((2 ^ k : Nat) : Int) := by push_cast; rfl
    have h1 : 0 < 2 ^ k := Nat.pow_pos (by decide)
    have h2 : 2 ^ k ≤ 2 ^ 8 := Nat.pow_le_pow_right (by decide) (by omega)
    rw [e]
    generalize 2 ^ k = w at *
    have h3 : (w : Int) < 1073741824 := by omega
    simp [h1, h3]
    rw [Bool.eq_iff_iff]
    simp
    have : ((x : Int) / w % 2 = 1) ↔ (x / w % 2 = 1) := by omega
    simp only [this, beq_iff_eq, Bool.beq_eq_decide_eq]⟩)]
  rw [← par_pc 9 x hx]
  simp [List.range, List.range.loop, par]
/-- the law's bank by masks -/
theorem bm_sum (x : Nat) : ∀ (ms : List Nat) (t : Nat), (((ms.zipIdx t).filter fun p => pc (x &&& p.1) % 2 == 1).map fun p => (2 : Int) ^ p.2).sum = 2 ^ t * bm x ms
  | [], t => by simp [bm]
  | m :: ms, t => by
    rw [List.zipIdx_cons, List.filter_cons]
    have ih := bm_sum x ms (t + 1)
    rcases Nat.mod_two_eq_zero_or_one (pc (x &&& m)) with h | h
    · simp only [h]
      rw [if_neg (by decide), ih]
      simp only [bm, h]
      rw [Int.pow_succ]
      push_cast
      rw [Int.mul_assoc]
      simp
    · simp only [h]
      rw [if_pos (by decide), List.map_cons, List.sum_cons, ih]
      simp only [bm, h]
      rw [Int.pow_succ]
      push_cast
      rw [Int.mul_add, Int.mul_assoc]
      simp
theorem lbank_ok [C_135 T] : ∀ {d : Deal} {i j : Int} {L : Nat}, d.Ok → d.Sm → d.Tight → 0 ≤ i → i < d.nr → 0 ≤ j → j < d.nc → d.dep + 2 ≤ L → callN T G L 135 [.val d.enc, .val (.int i), .val (.int j)] = some (.int (d.bank i j), [.un, .un, .un])
  | .skew r c k x y, i, j, L, ⟨o1, o2, k1, x1, y1⟩, ⟨z1, z2, z3, x2, y2⟩, _, i0, i1, j0, j1, hL => by
    obtain ⟨n, rfl⟩ : ∃ n, L = n + 1 := ⟨L - 1, by omega⟩
    have m1 : sml x := sml_of (by omega) (by omega)
    have m2 : sml y := sml_of (by omega) (by omega)
    have k0 : 0 < k := by omega
    have es := lsize_ok (T := T) (G := G) (L := n) (d := .skew r c k x y) ⟨o1, o2, k1, x1, y1⟩ ⟨z1, z2, z3, x2, y2⟩ trivial (by omega)
    simp only [Deal.enc, Deal.nr, Deal.nc, Deal.nb] at es ⊢
    rw [q_135]
    simp [bd_135, es, m1, m2, k0, Deal.bank]
  | .rests r c k p, i, j, L, ⟨o1, c1, k1, o4⟩, ⟨z1, c2, z3⟩, _, i0, i1, j0, j1, hL => by
    obtain ⟨n, rfl⟩ : ∃ n, L = n + 1 := ⟨L - 1, by omega⟩
    have m1 : sml c := sml_of (by omega) (by omega)
    have k0 : 0 < k := by omega
    have es := lsize_ok (T := T) (G := G) (L := n) (d := .rests r c k p) ⟨o1, c1, k1, o4⟩ ⟨z1, c2, z3⟩ trivial (by omega)
    simp only [Deal.enc, Deal.nr, Deal.nc, Deal.nb] at es ⊢
    rw [q_135]
    simp [bd_135, es, m1, k0, Deal.bank]
  | .bits a b ms, i, j, L, ho, ⟨h1, h2⟩, ⟨t1, t2, t3, t4⟩, i0, i1, j0, j1, hL => by
    obtain ⟨n, rfl⟩ : ∃ n, L = n + 2 := ⟨L - 2, by simp only [Deal.dep] at hL; omega⟩
    have i1' : i < 2 ^ a := i1
    have j1' : j < 2 ^ b := j1
    have es := lsize_ok (T := T) (G := G) (L := n + 1) (d := .bits a b ms) ho ⟨h1, h2⟩ ⟨t1, t2, t3, t4⟩ (by simp [Deal.dep])
    have hb : (2 : Int) ^ b ≤ 512 := Deal.two_le (m := 9) (by omega)
    have hp := Deal.two_pos b
    have hab : (2 : Int) ^ a * 2 ^ b ≤ 512 := by rw [← Int.pow_add]; exact Deal.two_le (m := 9) t1
    have q := Int.mul_le_mul_of_nonneg_right (show i ≤ 2 ^ a - 1 by omega) (show (0 : Int) ≤ 2 ^ b by omega)
    rw [Int.sub_mul] at q
    have hx0 : 0 ≤ i * 2 ^ b := Int.mul_nonneg i0 (by omega)
    simp only [Deal.bank, Deal.enc, Deal.nr, Deal.nc, Deal.nb] at es ⊢
    generalize (2 : Int) ^ b = y at *
    generalize (2 : Int) ^ a = y2 at *
    generalize (2 : Int) ^ ms.length = y3 at *
    obtain ⟨x, ex⟩ : ∃ x : Nat, i * y + j = (x : Int) := ⟨(i * y + j).toNat, by omega⟩
    have hx : x < 512 := by omega
    have m1 : sml y := sml_of (by omega) (by omega)
    simp only [masksD] at es
    rw [q_135]
    simp [bd_135, es, m1, masksD, enumD_map]
    rw [comp_of (fun p : Nat × Nat => PyData.tuple [.int (p.2 : Nat), .int (p.1 : Nat)]) (fun p => pc (x &&& p.1) % 2 == 1) (fun p => .int (2 ^ p.2)) rfl (by
      intro p hpm
      have ht : p.2 < 5 := by
        obtain ⟨t, ht⟩ := List.mem_iff_getElem?.mp hpm
        have h5 := List.getElem?_eq_some_iff.mp ht
        obtain ⟨h6, h7⟩ := h5
        simp at h6 h7
        rw [← h7]
        simp
        omega
      simp [m1, ex, band_nat]
      have hx2 : x &&& p.1 < 512 := Nat.lt_of_le_of_lt Nat.and_le_left hx
      rw [odd_ok hx2]
      simp
      generalize (pc (x &&& p.1) % 2 == 1) = q
      cases q
      · simp
      · simp
        rw [ixD_pow (by omega) (by simp; omega)]
        simp)]
    have e2 := bm_sum x ms 0
    simp [Ev.intsOf_mapf] at e2 ⊢
    rw [e2, ex]
    simp
  | .table k rows, i, j, L, ⟨h1, h2, h4, h5⟩, hs, _, i0, i1, j0, j1, hL => by
    obtain ⟨n, rfl⟩ : ∃ n, L = n + 1 := ⟨L - 1, by omega⟩
    have es := lsize_ok (T := T) (G := G) (L := n) (d := .table k rows) ⟨h1, h2, h4, h5⟩ hs trivial (by omega)
    have i1' : i < rows.length := i1
    have j1' : j < (rows.headD []).length := j1
    have hi : i.toNat < rows.length := by omega
    have hr := List.getElem?_eq_getElem hi
    have hl := (h5 _ (List.getElem_mem hi)).1
    have hj : j.toNat < rows[i.toNat].length := by omega
    have hc := List.getElem?_eq_getElem hj
    have x1 : ixD (rows.map rowD) i = some (rowD rows[i.toNat]) := by rw [ixD_int i0 (by simpa using i1')]; simp [hr]
    have x2 : ixD (rows[i.toNat].map PyData.int) j = some (.int rows[i.toNat][j.toNat]) := by rw [ixD_int j0 (by simp; omega)]; simp [hc]
    simp only [Deal.enc, rowsD, rowD] at x1 es ⊢
    rw [q_135]
    simp [bd_135, es, x1, x2, hr, hc, Deal.bank]
  | .joined a b, i, j, L, ⟨h1, h2⟩, ⟨s1, s2, z1, z2, z3⟩, ⟨t1, t2⟩, i0, i1, j0, j1, hL => by
    simp only [Deal.dep] at hL
    obtain ⟨n, rfl⟩ : ∃ n, L = n + 1 := ⟨L - 1, by omega⟩
    have i1' : i < a.nr * b.nr := i1
    have j1' : j < a.nc * b.nc := j1
    have p := Deal.pos h2
    have l := Deal.le s2
    have e0 := lsize_ok (T := T) (G := G) (L := n) (d := .joined a b) ⟨h1, h2⟩ ⟨s1, s2, z1, z2, z3⟩ ⟨t1, t2⟩ (by simp only [Deal.dep]; omega)
    have es := lsize_ok (T := T) (G := G) (L := n) h2 s2 t2 (by omega)
    have e1 := lbank_ok (d := a) (i := i / b.nr) (j := j / b.nc) (L := n) h1 s1 t1 (Int.ediv_nonneg i0 (by omega)) (Int.ediv_lt_of_lt_mul (by omega) i1') (Int.ediv_nonneg j0 (by omega)) (Int.ediv_lt_of_lt_mul (by omega) j1') (by omega)
    have e2 := lbank_ok (d := b) (i := i % b.nr) (j := j % b.nc) (L := n) h2 s2 t2 (Int.emod_nonneg _ (by omega)) (Int.emod_lt_of_pos _ (by omega)) (Int.emod_nonneg _ (by omega)) (Int.emod_lt_of_pos _ (by omega)) (by omega)
    have r0 : 0 < b.nr := by omega
    have r2 : b.nr < 1073741824 := by omega
    have c0 : 0 < b.nc := by omega
    have c2 : b.nc < 1073741824 := by omega
    have m1 : sml b.nb := sml_of (by omega) (by omega)
    simp only [Deal.enc] at e0 ⊢
    rw [q_135]
    simp [bd_135, e0, es, e1, e2, r0, r2, c0, c2, m1, Deal.bank]
/-- a pair of numbers -/
def pD (p : Int × Int) : D := .tuple [.int p.1, .int p.2]
/-- the words of a table -/
def wordsL (r c : Int) : List (Int × Int) := (List.range r.toNat).flatMap fun (i : Nat) => (List.range c.toNat).map fun (j : Nat) => ((i : Int), (j : Int))
theorem mem_words {r c : Int} {p : Int × Int} : p ∈ wordsL r c ↔ (0 ≤ p.1 ∧ p.1 < r ∧ 0 ≤ p.2 ∧ p.2 < c) := by
  unfold wordsL
  simp only [List.mem_flatMap, List.mem_range, List.mem_map]
  constructor
  · rintro ⟨i, hi, j, hj, rfl⟩
    simp
    omega
  · rintro ⟨h1, h2, h3, h4⟩
    exact ⟨p.1.toNat, by omega, p.2.toNat, by omega, by ext <;> simp <;> omega⟩
theorem words_len {r c : Int} : (wordsL r c).length = r.toNat * c.toNat := by
  unfold wordsL
  rw [List.length_flatMap]
  simp
  rw [List.map_const', List.length_range, List.sum_replicate_nat]
theorem flatMap_fold {α β : Type} (f : α → List β) : ∀ (l : List α) (acc : List β), l.foldl (fun s x => s ++ f x) acc = acc ++ l.flatMap f
  | [], acc => by simp
  | x :: l, acc => by rw [List.foldl_cons, flatMap_fold f l]; simp
theorem words_ok [C_127 T] {d : Deal} (g : d.Good) (t : d.Tight) (r1 : d.nr ≤ 1000) (c1 : d.nc ≤ 1000) : callN T G (n + 5) 127 [.val d.enc] = some (.list ((wordsL d.nr d.nc).map pD), [.un]) := by
  have p := g.pos
  have e1 := lsize_ok (T := T) (G := G) (L := n + 4) g.ok g.sm t (by have := g.dp; omega)
  refine W.eq ?_
  rw [q_127]
  simp [bd_127, e1, rngOk_of (show -16777216 ≤ d.nr by omega) (show d.nr ≤ 16777216 by omega)]
  have hN := words_len (r := d.nr) (c := d.nc)
  have hM : d.nr.toNat * d.nc.toNat ≤ 1000 * 1000 := Nat.mul_le_mul (by omega) (by omega)
  refine .of (for_app (fun (k : Nat) => PyData.int k) (fun l : List (Int × Int) => [.val d.enc, .val (.int d.nr), .val (.int d.nc), .val (.int d.nb), .own 1 (.list (l.map pD)), .un, .un]) (fun (i : Nat) => (List.range d.nc.toNat).map fun (j : Nat) => ((i : Int), (j : Int))) 1000000 upTo0_map (by unfold wordsL at hN; omega) ?_) ?_
  · intro l i hi hl
    simp at hi hl
    simp [rngOk_of (show -16777216 ≤ d.nc by omega) (show d.nc ≤ 16777216 by omega)]
    refine .of (comp_map' (fun (k : Nat) => PyData.int k) (fun j => pD (i, j)) upTo0_map fun j hj => ?_) ?_
    · simp [pD]
    simp [fits_of (show l.length + d.nc.toNat ≤ 16777216 by omega), Function.comp_def]
  · simp [wordsL]
mutual
theorem shp_inv : ∀ {d : D} {k : Nat}, Shp d k → (∀ l, d = .list l ∨ d = .tuple l → 1 ≤ k ∧ ∀ x ∈ l, Shp x (k - 1))
  | .list l, k, h, m, e => by
    have : m = l := by rcases e with e | e <;> cases e; rfl
    subst this
    obtain ⟨h1, h2⟩ := h
    simp only [PyData.canLay0, PyData.depth] at h1 h2
    exact ⟨by omega, shps_inv h1 (by omega)⟩
  | .tuple l, k, h, m, e => by
    have : m = l := by rcases e with e | e <;> cases e; rfl
    subst this
    obtain ⟨h1, h2⟩ := h
    simp only [PyData.canLay0, PyData.depth] at h1 h2
    exact ⟨by omega, shps_inv h1 (by omega)⟩
  | .none, _, _, _, e => by rcases e with e | e <;> cases e
  | .bool _, _, _, _, e => by rcases e with e | e <;> cases e
  | .int _, _, _, _, e => by rcases e with e | e <;> cases e
  | .str _, _, _, _, e => by rcases e with e | e <;> cases e
  | .dict _, _, _, _, e => by rcases e with e | e <;> cases e
theorem shps_inv : ∀ {l : List D} {k : Nat}, PyData.canLayAll0 l = true → PyData.depthAll l ≤ k → ∀ x ∈ l, Shp x k
  | [], _, _, _, x, hx => by cases hx
  | d :: l, k, h1, h2, x, hx => by
    simp only [PyData.canLayAll0, PyData.depthAll, Bool.and_eq_true] at h1 h2
    rcases List.mem_cons.mp hx with rfl | hx
    · exact ⟨h1.1, by omega⟩
    · exact shps_inv h1.2 (by omega) x hx
end
theorem zip_self {α : Type} : ∀ (l : List α), l.zip l = l.map fun x => (x, x)
  | [] => rfl
  | x :: l => by simp [zip_self l]
theorem all_true {α : Type} (l : List α) : boolsOf (l.map fun _ => PyData.bool true) = some (l.map fun _ => true) := Ev.boolsOf_mapf
theorem zipD_self (l : List D) : zipD l l = l.map fun x => PyData.tuple [x, x] := by
  induction l with
  | nil => rfl
  | cons x l ih => rw [zipD, ih]; rfl
/-- a thing is like itself -/
theorem same_ok [C_93 T] : ∀ (k : Nat) {d : D} {L : Nat}, Shp d k → k + 1 ≤ L → callN T G L 93 [.val d, .val d] = some (.bool true, [.un, .un]) := by
  intro k
  induction k with
  | zero =>
    intro d L h hL
    obtain ⟨n, rfl⟩ : ∃ n, L = n + 1 := ⟨L - 1, by omega⟩
    cases d with
    | list l => exact absurd ((shp_inv h) l (.inl rfl)).1 (by omega)
    | tuple l => exact absurd ((shp_inv h) l (.inr rfl)).1 (by omega)
    | dict l => exact absurd h.1 (by simp only [PyData.canLay0]; decide)
    | none =>
      rw [q_93]
      simp [bd_93]
    | bool b =>
      rw [q_93]
      simp [bd_93]
    | int b =>
      rw [q_93]
      simp [bd_93]
    | str b =>
      rw [q_93]
      simp [bd_93]
  | succ k ih =>
    intro d L h hL
    obtain ⟨n, rfl⟩ : ∃ n, L = n + 1 := ⟨L - 1, by omega⟩
    cases d with
    | list l =>
      have hx := ((shp_inv h) l (.inl rfl)).2
      refine W.eq ?_
      rw [q_93]
      simp [bd_93]
      rw [zipD_self]
      refine .of (comp_map' (fun x : D => PyData.tuple [x, x]) (fun _ => .bool true) rfl fun x hm => ?_) ?_
      · simp
        rw [ih (hx x hm) (by omega)]
        simp
      · simp [all_true]
    | tuple l =>
      have hx := ((shp_inv h) l (.inr rfl)).2
      refine W.eq ?_
      rw [q_93]
      simp [bd_93]
      rw [zipD_self]
      refine .of (comp_map' (fun x : D => PyData.tuple [x, x]) (fun _ => .bool true) rfl fun x hm => ?_) ?_
      · simp
        rw [ih (hx x hm) (by omega)]
        simp
      · simp [all_true]
    | dict l => exact absurd h.1 (by simp only [PyData.canLay0]; decide)
    | none =>
      rw [q_93]
      simp [bd_93]
    | bool b =>
      rw [q_93]
      simp [bd_93]
    | int b =>
      rw [q_93]
      simp [bd_93]
    | str b =>
      rw [q_93]
      simp [bd_93]
end
namespace Ev
@[scoped simp] theorem all_tt {α : Type} (l : List α) : (l.all fun _ => true) = true := by simp
@[scoped simp] theorem tb_1 {k rows} : idxD (Deal.table k rows).enc (.int 1) = some (.int k) := id rfl
@[scoped simp] theorem tb_2 {k rows} : idxD (Deal.table k rows).enc (.int 2) = some (rowsD rows) := id rfl
@[scoped simp] theorem len_rows {rows} : bltD .len (rowsD rows) = some (.int rows.length) := by simp [rowsD]
@[scoped simp] theorem len_row {r} : bltD .len (rowD r) = some (.int r.length) := by simp [rowD]
@[scoped simp] theorem list_row {r} : bltD .list (rowD r) = some (.list (r.map .int)) := id rfl
end Ev
theorem idx_rows {rows : List (List Int)} {i : Nat} {r : List Int} (h : rows[i]? = some r) : idxD (rowsD rows) (.int i) = some (rowD r) := by
  show ixD (rows.map rowD) i = _
  rw [ixD_at (by simpa using (List.getElem?_eq_some_iff.mp h).1), List.getElem?_map, h]
  rfl
theorem rng_law {m : Nat} {N : Int} (h0 : 0 ≤ N) (h : N ≤ 1000) : rngOk (1 + if (m : Int) < N then (m : Int) else N) = true :=
  rngOk_of (by split <;> omega) (by split <;> omega)
theorem law_W {x : Option (D × List R)} (h : W x (fun r => r.1 = .bool true)) : ∃ os, x = some (.bool true, os) := by
  obtain ⟨⟨d, os⟩, e, rfl⟩ := h
  exact ⟨os, e⟩
theorem shp_word {p : Int × Int} {k : Nat} : Shp (pD p) (k + 1) := shp_t (by simp; exact ⟨shp_i, shp_i⟩)
theorem shp_ints {l : List Int} {k : Nat} : Shp (.list (l.map PyData.int)) (k + 1) := shp_l (by simp; intro a _; exact shp_i)
theorem shp_3 {a b c : Int} {k : Nat} : Shp (.tuple [.int a, .int b, .int c]) (k + 1) := shp_t (by simp; exact ⟨shp_i, shp_i, shp_i⟩)
end BW

namespace BW
open PySem PySem.Spec PyProof.Rows L2
open scoped BW.Ev
/-! BwS: how long the texts of things are at most. -/
theorem textFrom_ub : ∀ (ts : List Str) (k : Nat) (acc : Str) (N : Nat), (∀ t ∈ ts, t.length ≤ N) → (textFrom k acc ts).length ≤ acc.length + ts.length * (N + 2)
  | [], k, acc, N, _ => by simp [textFrom]
  | t :: r, k, acc, N, h => by
    have ih := textFrom_ub r (k + 1) (acc ++ (if k > 0 then ", " else "" : String) ++ t) N fun x hx => h x (List.mem_cons_of_mem _ hx)
    have e : (acc ++ (if k > 0 then ", " else "" : String) ++ t).length = acc.length + (if k > 0 then 2 else 0) + t.length := by
      rw [strLen_append, strLen_append]
      split <;> rfl
    have ht := h t (List.mem_cons_self ..)
    rw [textFrom]
    rw [e] at ih
    have h2 : (if k > 0 then 2 else 0) ≤ 2 := by split <;> omega
    simp only [List.length_cons, Nat.add_mul, Nat.one_mul]
    omega
theorem listText_ub {ts : List Str} {N : Nat} (h : ∀ t ∈ ts, t.length ≤ N) : (listText ts).length ≤ ts.length * (N + 2) + 2 := by
  have := textFrom_ub ts 0 "[" N h
  unfold listText
  rw [strLen_append]
  have e1 : ("[" : Str).length = 1 := rfl
  have e2 : ("]" : Str).length = 1 := rfl
  rw [e1] at this
  have e3 : ((("]" : String) : Str)).length = 1 := rfl
  omega
theorem join_ub {N : Nat} : ∀ {ts : List Str}, (∀ t ∈ ts, t.length ≤ N) → (Str.join ", " ts).length ≤ ts.length * (N + 2)
  | [], _ => by show (0 : Nat) ≤ _; omega
  | [x], h => by
    have := h x (List.mem_cons_self ..)
    show x.length ≤ _
    simp
    omega
  | x :: y :: r, h => by
    have ih := join_ub (ts := y :: r) fun t ht => h t (List.mem_cons_of_mem _ ht)
    have := h x (List.mem_cons_self ..)
    show (x ++ ", " ++ Str.join ", " (y :: r)).length ≤ _
    have e2 : ((", " : String) : Str).length = 2 := rfl
    rw [strLen_append, strLen_append, e2]
    simp only [List.length_cons, Nat.add_mul, Nat.one_mul] at ih ⊢
    omega
theorem tupleText_ub {ts : List Str} {N : Nat} (h : ∀ t ∈ ts, t.length ≤ N) : (tupleText ts).length ≤ ts.length * (N + 2) + 3 := by
  have := join_ub h
  unfold tupleText
  rw [strLen_append, strLen_append]
  have e1 : ("(" : Str).length = 1 := rfl
  rw [e1]
  split
  · have e2 : (((",)" : String) : Str)).length = 2 := rfl
    rw [e2]
    omega
  · have e2 : (((")" : String) : Str)).length = 1 := rfl
    rw [e2]
    omega
/-- a thing whose text is of at most N signs -/
structure Shw (d : D) (k N : Nat) : Prop where
  a : d.showable = true
  b : d.hasDict = false
  c : d.depth ≤ k
  e : d.shown.length ≤ N
theorem Shw.mono {d : D} {k k' N N' : Nat} (h : Shw d k N) (hk : k ≤ k') (hN : N ≤ N') : Shw d k' N' := ⟨h.a, h.b, Nat.le_trans h.c hk, Nat.le_trans h.e hN⟩
theorem Shw.ok {d : D} {k N : Nat} (h : Shw d k N) (hk : k < 60 := by decide) (hN : N ≤ 16777216 := by decide) : shwOk d = true := by
  unfold shwOk
  rw [h.a, h.b, decide_eq_true (Nat.lt_of_le_of_lt h.c hk)]
  exact decide_eq_true (Nat.le_trans h.e hN)
theorem shw_n {k : Nat} : Shw .none k 66 := ⟨by simp only [PyData.showable], by simp only [PyData.hasDict], by simp only [PyData.depth]; omega, by simp only [PyData.shown]; decide⟩
theorem shw_b {b : Bool} {k : Nat} : Shw (.bool b) k 66 := ⟨by simp only [PyData.showable], by simp only [PyData.hasDict], by simp only [PyData.depth]; omega, by simp only [PyData.shown]; cases b <;> decide⟩
theorem shw_i {i : Int} {k : Nat} (h0 : -(2 ^ 64) < i) (h1 : i < 2 ^ 64) : Shw (.int i) k 66 := by
  have hl : i.natAbs.log2 < 64 := by
    rcases Nat.eq_zero_or_pos i.natAbs with h | h
    · rw [h]; decide
    · exact (Nat.log2_lt (by omega)).mpr (by omega)
  refine ⟨?_, by simp only [PyData.hasDict], by simp only [PyData.depth]; omega, ?_⟩
  · simp only [PyData.showable]
    exact decide_eq_true (by omega)
  · simp only [PyData.shown]
    exact Nat.le_trans (Nat.le_of_eq (PySem.ofString_length _)) (Nat.le_trans (int_text_length_le (by decide) hl) (by decide))
theorem shw_all {l : List D} {k N : Nat} (h : ∀ d ∈ l, Shw d k N) : PyData.showableAll l = true ∧ PyData.hasDictAll l = false ∧ PyData.depthAll l ≤ k ∧ (∀ t ∈ PyData.shownAll l, t.length ≤ N) ∧ (PyData.shownAll l).length = l.length := by
  induction l with
  | nil => exact ⟨by simp only [PyData.showableAll], by simp only [PyData.hasDictAll], by simp only [PyData.depthAll]; omega, by simp [PyData.shownAll], by simp [PyData.shownAll]⟩
  | cons d l ih =>
    have h1 := h d (List.mem_cons_self ..)
    obtain ⟨i1, i2, i3, i4, i5⟩ := ih fun x hx => h x (List.mem_cons_of_mem _ hx)
    refine ⟨by simp only [PyData.showableAll, h1.a, i1]; rfl, by simp only [PyData.hasDictAll, h1.b, i2]; rfl, by simp only [PyData.depthAll]; have := h1.c; omega, ?_, by simp [PyData.shownAll, i5]⟩
    intro t ht
    simp only [PyData.shownAll, List.mem_cons] at ht
    rcases ht with rfl | ht
    · exact h1.e
    · exact i4 t ht
theorem shw_l {l : List D} {k N M : Nat} (h : ∀ d ∈ l, Shw d k N) (hl : l.length ≤ M) : Shw (.list l) (k + 1) (M * (N + 2) + 3) := by
  obtain ⟨i1, i2, i3, i4, i5⟩ := shw_all h
  refine ⟨by simp only [PyData.showable, i1], by simp only [PyData.hasDict, i2], by simp only [PyData.depth]; omega, ?_⟩
  simp only [PyData.shown]
  have := listText_ub i4
  rw [i5] at this
  have h2 := Nat.mul_le_mul_right (N + 2) hl
  omega
theorem shw_t {l : List D} {k N M : Nat} (h : ∀ d ∈ l, Shw d k N) (hl : l.length ≤ M) : Shw (.tuple l) (k + 1) (M * (N + 2) + 3) := by
  obtain ⟨i1, i2, i3, i4, i5⟩ := shw_all h
  refine ⟨by simp only [PyData.showable, i1], by simp only [PyData.hasDict, i2], by simp only [PyData.depth]; omega, ?_⟩
  simp only [PyData.shown]
  have := tupleText_ub i4
  rw [i5] at this
  have h2 := Nat.mul_le_mul_right (N + 2) hl
  omega
theorem shw_s {x : Str} {k : Nat} (h : decide ((reprText x).length ≤ 66) = true) : Shw (.str x) k 66 := ⟨by simp only [PyData.showable], by simp only [PyData.hasDict], by simp only [PyData.depth]; omega, by simp only [PyData.shown]; exact of_decide_eq_true h⟩
namespace Ev
@[scoped simp] theorem blt_repr {d : D} : bltD .repr d = if shwOk d = true then some (.str d.shown) else none := id rfl
@[scoped simp] theorem blt_strl {l : List D} : bltD .str (.list l) = if shwOk (.list l) = true then some (.str (PyData.list l).shown) else none := id rfl
@[scoped simp] theorem blt_strt {l : List D} : bltD .str (.tuple l) = if shwOk (.tuple l) = true then some (.str (PyData.tuple l).shown) else none := id rfl
@[scoped simp] theorem blt_stri {l : Int} : bltD .str (.int l) = if shwOk (.int l) = true then some (.str (PyData.int l).shown) else none := id rfl
@[scoped simp] theorem blt_strb {l : Bool} : bltD .str (.bool l) = if shwOk (.bool l) = true then some (.str (PyData.bool l).shown) else none := id rfl
@[scoped simp] theorem blt_strn : bltD .str .none = if shwOk .none = true then some (.str PyData.none.shown) else none := id rfl
@[scoped simp] theorem blt_strs {x : Str} : bltD .str (.str x) = some (.str x) := id rfl
end Ev
theorem blt_strd {d : D} (h : ∀ x, d ≠ .str x) : bltD .str d = if shwOk d = true then some (.str d.shown) else none := by
  cases d <;> first | rfl | exact absurd rfl (h _)
theorem row_shw {r : List Int} {k M : Nat} (h : ∀ x ∈ r, -(2 ^ 64) < x ∧ x < 2 ^ 64) (hl : r.length ≤ M) : Shw (rowD r) (k + 1) (M * 68 + 3) :=
  shw_t (N := 66) (by intro d hd; simp at hd; obtain ⟨x, hx, rfl⟩ := hd; exact shw_i (h x hx).1 (h x hx).2) (by simpa using hl)
theorem sm_i {x : Int} (h0 : 0 ≤ x) (h1 : x ≤ 1048576) : -(2 ^ 64) < x ∧ x < 2 ^ 64 := ⟨by omega, by omega⟩
theorem tag_shw {k : Nat} : Shw (.str "skew") k 66 ∧ Shw (.str "rests") k 66 ∧ Shw (.str "bits") k 66 ∧ Shw (.str "table") k 66 ∧ Shw (.str "joined") k 66 :=
  ⟨shw_s (by decide +kernel), shw_s (by decide +kernel), shw_s (by decide +kernel), shw_s (by decide +kernel), shw_s (by decide +kernel)⟩
/-- a dealing's text -/
theorem deal_shw : ∀ {d : Deal}, d.Ok → d.Sm → d.nr ≤ 16 → d.nc ≤ 16 → Shw d.enc (d.dep + 3) (60000 * 4 ^ d.dep)
  | .skew r c k x y, ⟨o1, o2, o3, o4, o5⟩, ⟨s1, s2, s3, s4, s5⟩, hr, hc => by
    refine (shw_t (k := 0) (N := 66) (M := 6) ?_ (by simp)).mono (by simp [Deal.dep]) (by simp [Deal.dep])
    simp
    exact ⟨tag_shw.1, shw_i (by omega) (by omega), shw_i (by omega) (by omega), shw_i (by omega) (by omega), shw_i (by omega) (by omega), shw_i (by omega) (by omega)⟩
  | .rests r c k p, ⟨o1, o2, o3, o4, _⟩, ⟨s1, s2, s3, s4⟩, hr, hc => by
    refine (shw_t (k := 0) (N := 66) (M := 5) ?_ (by simp)).mono (by simp [Deal.dep]) (by simp [Deal.dep])
    simp
    exact ⟨tag_shw.2.1, shw_i (by omega) (by omega), shw_i (by omega) (by omega), shw_i (by omega) (by omega), shw_i (by omega) (by omega)⟩
  | .bits h l ms, ho, ⟨s1, s2⟩, hr, hc => by
    refine (shw_t (k := 1) (N := 1363) (M := 4) ?_ (by simp)).mono (by simp [Deal.dep]) (by simp [Deal.dep])
    simp
    refine ⟨(tag_shw (k := 1)).2.2.1.mono (Nat.le_refl 1) (by omega), (shw_i (by omega) (by omega)).mono (Nat.le_refl 1) (by omega), (shw_i (by omega) (by omega)).mono (Nat.le_refl 1) (by omega), ?_⟩
    refine shw_t (k := 0) (N := 66) (M := 20) ?_ (by simpa using s2)
    intro d hd
    simp at hd
    obtain ⟨m, hm, rfl⟩ := hd
    have h1 := ho m hm
    have h2 : 2 ^ (h + l) ≤ 2 ^ 20 := Nat.pow_le_pow_right (by decide) s1
    have h3 := Nat.lt_of_lt_of_le h1 h2
    exact shw_i (by omega) (by omega)
  | .table k rows, ⟨o1, o2, o3, o4⟩, ⟨s1, s2, s3⟩, hr, hc => by
    have hr' : rows.length ≤ 16 := by simp only [Deal.nr] at hr; omega
    have hc' : (rows.headD []).length ≤ 16 := by simp only [Deal.nc] at hc; omega
    refine (shw_t (k := 2) (N := 17491) (M := 3) ?_ (by simp)).mono (by simp [Deal.dep]) (by simp [Deal.dep])
    simp
    refine ⟨(tag_shw (k := 2)).2.2.2.1.mono (Nat.le_refl 2) (by omega), (shw_i (by omega) (by omega)).mono (Nat.le_refl 2) (by omega), ?_⟩
    refine shw_t (k := 1) (N := 1091) (M := 16) ?_ (by simpa using hr')
    intro d hd
    simp at hd
    obtain ⟨r, hm, rfl⟩ := hd
    have h1 := o4 r hm
    exact row_shw (M := 16) (fun x hx => sm_i (h1.2 x hx).1 (by have := (h1.2 x hx).2; omega)) (by omega)
  | .joined a b, ⟨o1, o2⟩, ⟨s1, s2, _⟩, hr, hc => by
    have p := Deal.pos o1
    have q := Deal.pos o2
    simp only [Deal.nr, Deal.nc] at hr hc
    have a1 : a.nr ≤ 16 := Int.le_trans (by have := Int.mul_le_mul_of_nonneg_left q.1 (show 0 ≤ a.nr by omega); omega) hr
    have a2 : a.nc ≤ 16 := Int.le_trans (by have := Int.mul_le_mul_of_nonneg_left q.2.1 (show 0 ≤ a.nc by omega); omega) hc
    have b1 : b.nr ≤ 16 := Int.le_trans (by have := Int.mul_le_mul_of_nonneg_right p.1 (show 0 ≤ b.nr by omega); omega) hr
    have b2 : b.nc ≤ 16 := Int.le_trans (by have := Int.mul_le_mul_of_nonneg_right p.2.1 (show 0 ≤ b.nc by omega); omega) hc
    have e1 := deal_shw o1 s1 a1 a2
    have e2 := deal_shw o2 s2 b1 b2
    simp only [Deal.dep]
    have m1 : 60000 * 4 ^ a.dep ≤ 60000 * 4 ^ max a.dep b.dep := Nat.mul_le_mul_left _ (Nat.pow_le_pow_right (by decide) (by omega))
    have m2 : 60000 * 4 ^ b.dep ≤ 60000 * 4 ^ max a.dep b.dep := Nat.mul_le_mul_left _ (Nat.pow_le_pow_right (by decide) (by omega))
    have m3 : 1 ≤ 4 ^ max a.dep b.dep := Nat.pow_pos (by decide)
    rw [Nat.pow_succ, ← Nat.mul_assoc]
    generalize hN : 60000 * 4 ^ max a.dep b.dep = N at *
    have hN2 : 60000 ≤ N := by omega
    refine (shw_t (k := max a.dep b.dep + 3) (N := N) (M := 3) ?_ (by simp)).mono (by omega) (by omega)
    simp
    exact ⟨tag_shw.2.2.2.2.mono (Nat.le_refl _) (by omega), e1.mono (by omega) m1, e2.mono (by omega) m2⟩
theorem deal_shwOk {d : Deal} (g : d.Good) (hr : d.nr ≤ 16) (hc : d.nc ≤ 16) : shwOk d.enc = true := by
  have h := deal_shw g.ok g.sm hr hc
  have hd := g.dp
  have : 4 ^ d.dep ≤ 4 ^ 3 := Nat.pow_le_pow_right (by decide) hd
  exact (h.mono (k' := 6) (N' := 3840000) (by omega) (by omega)).ok
end BW

namespace BW
open PySem PySem.Spec PyProof.Rows L2
open scoped BW.Ev
/-! BwN1: nets of switches. -/
/-- 400: is_switch -/
def bd_400 : Sms := (.cons (.ret (.and (.cons (.isi (.var 0) [.int] true) (.cons (.not (.isi (.var 0) [.bool] true)) (.cons (.chn .le .le (.int 0) (.var 0) (.int 1)) .nil))))) .nil)
def m_400 : MDef := ⟨1, 1, 1, bd_400⟩
class C_400 (T : Tab) : Prop where
  h_400 : T 400 = some m_400
theorem q_400 {T : Tab} {G : Nat → D} {n : Nat} [C_400 T] {a0 : R} : callN T G (n + 1) 400 [a0] = bnd (evSs (callN T G n) G (ownT T) bd_400 [a0]) (endOf 1) := by
  rw [callN_at (C_400.h_400 (T := T))]
  rfl
@[scoped simp] theorem Ev.own_400 {T : Tab} [C_400 T] : ownT T 400 = 1 := ownT_at (C_400.h_400 (T := T))
/-- 401: are_switches -/
def bd_401 : Sms := (.cons (.ret (.and (.cons (.isi (.var 0) [.tuple] true) (.cons (.cmp .eq (.blt .len (.var 0)) (.var 1)) (.cons (.blt .all (.comp (.call 400 (.cons (.var 2) .nil)) (.var 2) (.seq (.var 0)) .nil [2])) .nil))))) .nil)
def m_401 : MDef := ⟨2, 3, 0, bd_401⟩
class C_401 (T : Tab) : Prop extends C_400 T where
  h_401 : T 401 = some m_401
theorem q_401 {T : Tab} {G : Nat → D} {n : Nat} [C_401 T] {a0 a1 : R} : callN T G (n + 1) 401 [a0, a1] = bnd (evSs (callN T G n) G (ownT T) bd_401 [a0, a1, .un]) (endOf 2) := by
  rw [callN_at (C_401.h_401 (T := T))]
  rfl
@[scoped simp] theorem Ev.own_401 {T : Tab} [C_401 T] : ownT T 401 = 0 := ownT_at (C_401.h_401 (T := T))
/-- 402: is_net -/
def bd_402 : Sms := (.cons (.ite (.cmp .eq (.var 1) (.int 2)) (.cons (.ret (.call 400 (.cons (.var 0) .nil))) .nil) .nil []) (.cons (.ite (.or (.cons (.not (.isi (.var 0) [.tuple] true)) (.cons (.cmp .ne (.blt .len (.var 0)) (.int 4)) .nil))) (.cons (.ret (.bl false)) .nil) .nil []) (.cons (.asg 0 2 (.bin .fdiv (.var 1) (.int 2))) (.cons (.ite (.or (.cons (.not (.call 401 (.cons (.idx (.var 0) (.int 0)) (.cons (.var 2) .nil)))) (.cons (.not (.call 401 (.cons (.idx (.var 0) (.int 3)) (.cons (.var 2) .nil)))) .nil))) (.cons (.ret (.bl false)) .nil) .nil []) (.cons (.ret (.and (.cons (.call 402 (.cons (.idx (.var 0) (.int 1)) (.cons (.var 2) .nil))) (.cons (.call 402 (.cons (.idx (.var 0) (.int 2)) (.cons (.var 2) .nil))) .nil)))) .nil)))))
def m_402 : MDef := ⟨2, 3, 1, bd_402⟩
class C_402 (T : Tab) : Prop extends C_400 T, C_401 T where
  h_402 : T 402 = some m_402
theorem q_402 {T : Tab} {G : Nat → D} {n : Nat} [C_402 T] {a0 a1 : R} : callN T G (n + 1) 402 [a0, a1] = bnd (evSs (callN T G n) G (ownT T) bd_402 [a0, a1, .un]) (endOf 2) := by
  rw [callN_at (C_402.h_402 (T := T))]
  rfl
@[scoped simp] theorem Ev.own_402 {T : Tab} [C_402 T] : ownT T 402 = 1 := ownT_at (C_402.h_402 (T := T))
/-- 403: net -/
def bd_403 : Sms := (.cons (.ite (.cmp .eq (.var 1) (.int 2)) (.cons (.ret (.call 92 (.cons (.io 0) (.cons (.int 2) .nil)))) .nil) .nil []) (.cons (.asg 0 3 (.blt .tuple (.comp (.call 92 (.cons (.io 0) (.cons (.int 2) .nil))) (.var 2) (.rng (.bin .fdiv (.var 1) (.int 2))) .nil [2]))) (.cons (.asg 0 4 (.call 403 (.cons (.io 0) (.cons (.bin .fdiv (.var 1) (.int 2)) .nil)))) (.cons (.asg 0 5 (.call 403 (.cons (.io 0) (.cons (.bin .fdiv (.var 1) (.int 2)) .nil)))) (.cons (.ret (.tup (.cons (.var 3) (.cons (.var 4) (.cons (.var 5) (.cons (.blt .tuple (.comp (.call 92 (.cons (.io 0) (.cons (.int 2) .nil))) (.var 2) (.rng (.bin .fdiv (.var 1) (.int 2))) .nil [2])) .nil)))))) .nil)))))
def m_403 : MDef := ⟨2, 6, 0, bd_403⟩
class C_403 (T : Tab) : Prop extends C_92 T where
  h_403 : T 403 = some m_403
theorem q_403 {T : Tab} {G : Nat → D} {n : Nat} [C_403 T] {a0 a1 : R} : callN T G (n + 1) 403 [a0, a1] = bnd (evSs (callN T G n) G (ownT T) bd_403 [a0, a1, .un, .un, .un, .un]) (endOf 2) := by
  rw [callN_at (C_403.h_403 (T := T))]
  rfl
@[scoped simp] theorem Ev.own_403 {T : Tab} [C_403 T] : ownT T 403 = 0 := ownT_at (C_403.h_403 (T := T))
inductive Net | sw (b : Bool) | big (first : List Bool) (up low : Net) (last : List Bool)
def swD (b : Bool) : D := .int (if b then 1 else 0)
def swsD (l : List Bool) : D := .tuple (l.map swD)
namespace Net
def enc : Net → D
  | .sw b => swD b
  | .big f u l t => .tuple [swsD f, u.enc, l.enc, swsD t]
end Net
/-- how many lanes at depth k -/
def lanes : Nat → Nat
  | 0 => 2
  | k + 1 => 2 * lanes k
theorem lanes_ge : ∀ k, 2 ≤ lanes k
  | 0 => Nat.le_refl _
  | k + 1 => by have := lanes_ge k; simp only [lanes]; omega
theorem lanes_le : ∀ k, lanes k ≤ 2 * 4 ^ k
  | 0 => by decide
  | k + 1 => by have := lanes_le k; simp only [lanes]; rw [Nat.pow_succ]; omega
namespace Net
/-- of lanes k lanes -/
def Of : Nat → Net → Prop
  | 0, .sw _ => True
  | k + 1, .big f u l t => f.length = lanes k ∧ Of k u ∧ Of k l ∧ t.length = lanes k
  | _, _ => False
end Net
section
variable {T : Tab} {G : Nat → D} {n : Nat}
theorem ld_half (k : Nat) : ((lanes (k + 1) : Nat) : Int) / 2 = lanes k := by simp only [lanes]; omega
theorem ld_ne (k : Nat) : ¬ ((lanes (k + 1) : Nat) : Int) = 2 := by have := lanes_ge k; simp only [lanes]; omega
theorem sw_of {v : Int} (h0 : 0 ≤ v) (h1 : v < 2) : ∃ b : Bool, PyData.int v = swD b ∧ True := by
  rcases (show v = 0 ∨ v = 1 by omega) with rfl | rfl
  · exact ⟨false, rfl, trivial⟩
  · exact ⟨true, rfl, trivial⟩
theorem net_W [C_403 T] : ∀ (k : Nat) {L : Nat} {d : D} {b : Nat} {Q : D × List R → Prop}, k ≤ 10 → k + 3 ≤ L → LSd d b → b + 40 * 4 ^ k < 50000000 →
    (∀ (nt : Net) d', Net.Of k nt → LSd d' (b + 40 * 4 ^ k) → Q (nt.enc, [.io 1 d', .un])) → W (callN T G L 403 [.io 1 d, .val (.int (lanes k))]) Q := by
  intro k
  induction k with
  | zero =>
    intro L d b Q _ hL h hb hk
    obtain ⟨n, rfl⟩ : ∃ n, L = n + 3 := ⟨L - 3, by omega⟩
    rw [q_403]
    simp [bd_403, lanes]
    refine pick_W h (by omega) (by omega) (by omega) fun v d' a0 b0 l => ?_
    simp
    obtain ⟨s, e, _⟩ := sw_of a0 b0
    rw [e]
    exact hk (.sw s) d' trivial (l.mono (by omega))
  | succ k ih =>
    intro L d b Q hk10 hL h hb hk
    obtain ⟨n, rfl⟩ : ∃ n, L = n + 4 := ⟨L - 4, by omega⟩
    have hlk := lanes_le k
    have h410 : 4 ^ k ≤ 4 ^ 10 := Nat.pow_le_pow_right (by decide) (by omega)
    rw [Nat.pow_succ] at hb hk
    generalize 4 ^ k = c at *
    have hr : rngOk (lanes k : Nat) = true := rngOk_of (by omega) (by omega)
    rw [q_403]
    simp [bd_403, ld_ne, ld_half, hr]
    refine W_compLS (fun k : Nat => PyData.int k) (fun d => [.io 1 d, .val (.int (lanes (k + 1))), .un, .un, .un, .un]) (fun v => ∃ s, v = swD s ∧ True) 1 upTo0_map h ?_ ?_
    · intro x d b' K hx hl hb' hK
      simp at hb'
      simp
      refine pick_W hl (by omega) (by omega) (by omega) fun v d' a0 b0 l' => ?_
      simp
      exact hK _ _ (sw_of a0 b0) l'
    intro l d1 hl hp l1
    obtain ⟨fs, rfl, hn, _⟩ := ex_map hp
    simp at hl l1
    simp [ld_half]
    refine ih (by omega) (by omega) l1 (by omega) fun up d2 u2 l2 => ?_
    simp [ld_half]
    refine ih (by omega) (by omega) l2 (by omega) fun lo d3 u3 l3 => ?_
    simp [ld_half, hr]
    refine W_compLS (fun k : Nat => PyData.int k) (fun d => [.io 1 d, .val (.int (lanes (k + 1))), .un, .val (swsD fs), .val up.enc, .val lo.enc]) (fun v => ∃ s, v = swD s ∧ True) 1 upTo0_map l3 ?_ ?_
    · intro x d b' K hx hl hb' hK
      simp at hb'
      simp
      refine pick_W hl (by omega) (by omega) (by omega) fun v d' a0 b0 l' => ?_
      simp
      exact hK _ _ (sw_of a0 b0) l'
    intro l d4 hl4 hp l4
    obtain ⟨ts, rfl, hn, _⟩ := ex_map hp
    simp at hl4 l4
    simp
    exact hk (.big fs up lo ts) d4 ⟨hl, u2, u3, hl4⟩ (l4.mono (by omega))
/-- what a switch is -/
def isSw : D → Bool
  | .int i => decide (0 ≤ i) && decide (i ≤ 1)
  | _ => false
def areSw (m : Nat) : D → Bool
  | .tuple l => decide (l.length = m) && l.all isSw
  | _ => false
/-- what a net of lanes k is -/
def isNet : Nat → D → Bool
  | 0, d => isSw d
  | k + 1, .tuple [a, b, c, e] => areSw (lanes k) a && areSw (lanes k) e && isNet k b && isNet k c
  | _ + 1, _ => false
theorem isw_ok [C_400 T] {d : D} : callN T G (n + 1) 400 [.val d] = some (.bool (isSw d), [.un]) := by
  cases d with
  | int i =>
    refine W.eq ?_
    rw [q_400]
    simp [bd_400]
    refine .cnd (fun h => ?_) fun h => ?_ <;> simp at h <;> simp [isSw, h] <;> omega
  | none =>
    rw [q_400]
    simp [bd_400]
    simp [isSw]
  | bool b =>
    rw [q_400]
    simp [bd_400]
    simp [isSw]
  | str b =>
    rw [q_400]
    simp [bd_400]
    simp [isSw]
  | list b =>
    rw [q_400]
    simp [bd_400]
    simp [isSw]
  | tuple b =>
    rw [q_400]
    simp [bd_400]
    simp [isSw]
  | dict b =>
    rw [q_400]
    simp [bd_400]
    simp [isSw]
theorem aresw_ok [C_401 T] {d : D} {m : Nat} : callN T G (n + 2) 401 [.val d, .val (.int m)] = some (.bool (areSw m d), [.un, .un]) := by
  cases d with
  | tuple l =>
    refine W.eq ?_
    rw [q_401]
    simp [bd_401]
    refine .cnd (fun h => ?_) fun h => ?_
    · simp at h
      have h' : l.length = m := by omega
      simp
      refine .of (comp_map' (xs := l) (fun x : D => x) (fun x => .bool (isSw x)) (by simp) fun x hx => ?_) ?_
      · simp [isw_ok]
      simp [Ev.boolsOf_mapf, areSw, h']
    · simp at h
      have h' : ¬ l.length = m := by omega
      simp [areSw, h']
  | int i =>
    rw [q_401]
    simp [bd_401]
    simp [areSw]
  | none =>
    rw [q_401]
    simp [bd_401]
    simp [areSw]
  | bool b =>
    rw [q_401]
    simp [bd_401]
    simp [areSw]
  | str b =>
    rw [q_401]
    simp [bd_401]
    simp [areSw]
  | list b =>
    rw [q_401]
    simp [bd_401]
    simp [areSw]
  | dict b =>
    rw [q_401]
    simp [bd_401]
    simp [areSw]
theorem isnet_ok [C_402 T] : ∀ (k : Nat) {L : Nat} {d : D}, k + 3 ≤ L → callN T G L 402 [.val d, .val (.int (lanes k))] = some (.bool (isNet k d), [.un, .un]) := by
  intro k
  induction k with
  | zero =>
    intro L d hL
    obtain ⟨n, rfl⟩ : ∃ n, L = n + 3 := ⟨L - 3, by omega⟩
    rw [q_402]
    simp [bd_402, lanes]
    rw [isw_ok]
    simp [isNet]
  | succ k ih =>
    intro L d hL
    obtain ⟨n, rfl⟩ : ∃ n, L = n + 4 := ⟨L - 4, by omega⟩
    have ih' := fun x => ih (L := n + 3) (d := x) (by omega)
    refine W.eq ?_
    cases d with
    | tuple l =>
      by_cases h4 : l.length = 4
      · obtain ⟨a, b, c, e, rfl⟩ : ∃ a b c e, l = [a, b, c, e] := by
          rcases l with _ | ⟨a, _ | ⟨b, _ | ⟨c, _ | ⟨e, _ | ⟨f, l⟩⟩⟩⟩⟩ <;> simp at h4
          exact ⟨a, b, c, e, rfl⟩
        rw [q_402]
        simp [bd_402, ld_ne, ld_half]
        rw [aresw_ok]
        simp [ld_half, isNet]
        cases areSw (lanes k) a
        · simp
        · simp
          rw [aresw_ok]
          simp
          cases areSw (lanes k) e
          · simp
          · simp
            rw [ih']
            simp
            cases isNet k b
            · simp
            · simp
              rw [ih']
              simp
      · have hz : isNet (k + 1) (.tuple l) = false := by
          rcases l with _ | ⟨a, _ | ⟨b, _ | ⟨c, _ | ⟨e, _ | ⟨f, l⟩⟩⟩⟩⟩ <;> first | rfl | (simp at h4)
        have h4' : ¬ (l.length : Int) = 4 := by omega
        rw [q_402]
        simp [bd_402, ld_ne, h4']
        simp [hz]
    | int i =>
      rw [q_402]
      simp [bd_402, ld_ne]
      simp [isNet]
    | none =>
      rw [q_402]
      simp [bd_402, ld_ne]
      simp [isNet]
    | bool b =>
      rw [q_402]
      simp [bd_402, ld_ne]
      simp [isNet]
    | str b =>
      rw [q_402]
      simp [bd_402, ld_ne]
      simp [isNet]
    | list b =>
      rw [q_402]
      simp [bd_402, ld_ne]
      simp [isNet]
    | dict b =>
      rw [q_402]
      simp [bd_402, ld_ne]
      simp [isNet]
end
end BW

namespace BW
open PySem PySem.Spec PyProof.Rows L2
open scoped BW.Ev
/-! BwN2: things led through nets. -/
/-- 407: parted -/
def bd_407 : Sms := (.cons (.asg 1 2 (.lst .nil)) (.cons (.asg 1 3 (.lst .nil)) (.cons (.for_ (.tup (.cons (.var 4) (.cons (.var 5) .nil))) (.enum (.var 0)) (.cons (.mut 2 [] .append (.cons (.idx (.var 1) (.bin .add (.bin .mul (.int 2) (.var 4)) (.var 5))) .nil)) (.cons (.mut 3 [] .append (.cons (.idx (.var 1) (.bin .sub (.bin .add (.bin .mul (.int 2) (.var 4)) (.int 1)) (.var 5))) .nil)) .nil)) [4, 5]) (.cons (.ret (.tup (.cons (.var 2) (.cons (.var 3) .nil)))) .nil))))
def m_407 : MDef := ⟨2, 6, 0, bd_407⟩
class C_407 (T : Tab) : Prop where
  h_407 : T 407 = some m_407
theorem q_407 {T : Tab} {G : Nat → D} {n : Nat} [C_407 T] {a0 a1 : R} : callN T G (n + 1) 407 [a0, a1] = bnd (evSs (callN T G n) G (ownT T) bd_407 [a0, a1, .un, .un, .un, .un]) (endOf 2) := by
  rw [callN_at (C_407.h_407 (T := T))]
  rfl
@[scoped simp] theorem Ev.own_407 {T : Tab} [C_407 T] : ownT T 407 = 0 := ownT_at (C_407.h_407 (T := T))
/-- 408: put_together -/
def bd_408 : Sms := (.cons (.asg 1 3 (.lst .nil)) (.cons (.for_ (.tup (.cons (.var 4) (.cons (.var 5) .nil))) (.enum (.var 0)) (.cons (.asg 0 6 (.lst (.cons (.idx (.var 1) (.var 4)) (.cons (.idx (.var 2) (.var 4)) .nil)))) (.cons (.mut 3 [] .extend (.cons (.lst (.cons (.idx (.var 6) (.var 5)) (.cons (.idx (.var 6) (.bin .sub (.int 1) (.var 5))) .nil))) .nil)) .nil)) [4, 5, 6]) (.cons (.ret (.mv 3 1)) .nil)))
def m_408 : MDef := ⟨3, 7, 1, bd_408⟩
class C_408 (T : Tab) : Prop where
  h_408 : T 408 = some m_408
theorem q_408 {T : Tab} {G : Nat → D} {n : Nat} [C_408 T] {a0 a1 a2 : R} : callN T G (n + 1) 408 [a0, a1, a2] = bnd (evSs (callN T G n) G (ownT T) bd_408 [a0, a1, a2, .un, .un, .un, .un]) (endOf 3) := by
  rw [callN_at (C_408.h_408 (T := T))]
  rfl
@[scoped simp] theorem Ev.own_408 {T : Tab} [C_408 T] : ownT T 408 = 1 := ownT_at (C_408.h_408 (T := T))
/-- 409: led -/
def bd_409 : Sms := (.cons (.ite (.cmp .eq (.blt .len (.var 1)) (.int 2)) (.cons (.ret (.lst (.cons (.idx (.var 1) (.var 0)) (.cons (.idx (.var 1) (.bin .sub (.int 1) (.var 0))) .nil)))) .nil) .nil []) (.cons (.asgT (.cons (.var 2) (.cons (.var 3) (.cons (.var 4) (.cons (.var 5) .nil)))) (.var 0)) (.cons (.asgT (.cons (.var 6) (.cons (.var 7) .nil)) (.call 407 (.cons (.var 2) (.cons (.var 1) .nil)))) (.cons (.ret (.call 408 (.cons (.var 5) (.cons (.call 409 (.cons (.var 3) (.cons (.var 6) .nil))) (.cons (.call 409 (.cons (.var 4) (.cons (.var 7) .nil))) .nil))))) .nil))))
def m_409 : MDef := ⟨2, 8, 1, bd_409⟩
class C_409 (T : Tab) : Prop extends C_407 T, C_408 T where
  h_409 : T 409 = some m_409
theorem q_409 {T : Tab} {G : Nat → D} {n : Nat} [C_409 T] {a0 a1 : R} : callN T G (n + 1) 409 [a0, a1] = bnd (evSs (callN T G n) G (ownT T) bd_409 [a0, a1, .un, .un, .un, .un, .un, .un]) (endOf 2) := by
  rw [callN_at (C_409.h_409 (T := T))]
  rfl
@[scoped simp] theorem Ev.own_409 {T : Tab} [C_409 T] : ownT T 409 = 1 := ownT_at (C_409.h_409 (T := T))
/-- 410: led_back -/
def bd_410 : Sms := (.cons (.ite (.cmp .eq (.blt .len (.var 1)) (.int 2)) (.cons (.ret (.lst (.cons (.idx (.var 1) (.var 0)) (.cons (.idx (.var 1) (.bin .sub (.int 1) (.var 0))) .nil)))) .nil) .nil []) (.cons (.asgT (.cons (.var 2) (.cons (.var 3) (.cons (.var 4) (.cons (.var 5) .nil)))) (.var 0)) (.cons (.asgT (.cons (.var 6) (.cons (.var 7) .nil)) (.call 407 (.cons (.var 5) (.cons (.var 1) .nil)))) (.cons (.ret (.call 408 (.cons (.var 2) (.cons (.call 410 (.cons (.var 3) (.cons (.var 6) .nil))) (.cons (.call 410 (.cons (.var 4) (.cons (.var 7) .nil))) .nil))))) .nil))))
def m_410 : MDef := ⟨2, 8, 1, bd_410⟩
class C_410 (T : Tab) : Prop extends C_407 T, C_408 T where
  h_410 : T 410 = some m_410
theorem q_410 {T : Tab} {G : Nat → D} {n : Nat} [C_410 T] {a0 a1 : R} : callN T G (n + 1) 410 [a0, a1] = bnd (evSs (callN T G n) G (ownT T) bd_410 [a0, a1, .un, .un, .un, .un, .un, .un]) (endOf 2) := by
  rw [callN_at (C_410.h_410 (T := T))]
  rfl
@[scoped simp] theorem Ev.own_410 {T : Tab} [C_410 T] : ownT T 410 = 1 := ownT_at (C_410.h_410 (T := T))
/-- 411: lane -/
def bd_411 : Sms := (.cons (.ite (.isi (.var 0) [.int] true) (.cons (.ret (.bin .mod (.bin .add (.var 1) (.var 0)) (.int 2))) .nil) .nil []) (.cons (.asg 0 2 (.bin .mod (.bin .add (.var 1) (.idx (.idx (.var 0) (.int 0)) (.bin .fdiv (.var 1) (.int 2)))) (.int 2))) (.cons (.asg 0 3 (.call 411 (.cons (.idx (.var 0) (.bin .add (.int 1) (.var 2))) (.cons (.bin .fdiv (.var 1) (.int 2)) .nil)))) (.cons (.ret (.bin .add (.bin .mul (.int 2) (.var 3)) (.bin .mod (.bin .add (.var 2) (.idx (.idx (.var 0) (.int 3)) (.var 3))) (.int 2)))) .nil))))
def m_411 : MDef := ⟨2, 4, 0, bd_411⟩
class C_411 (T : Tab) : Prop where
  h_411 : T 411 = some m_411
theorem q_411 {T : Tab} {G : Nat → D} {n : Nat} [C_411 T] {a0 a1 : R} : callN T G (n + 1) 411 [a0, a1] = bnd (evSs (callN T G n) G (ownT T) bd_411 [a0, a1, .un, .un]) (endOf 2) := by
  rw [callN_at (C_411.h_411 (T := T))]
  rfl
@[scoped simp] theorem Ev.own_411 {T : Tab} [C_411 T] : ownT T 411 = 0 := ownT_at (C_411.h_411 (T := T))
def parts {α : Type} : List Bool → List α → List α × List α
  | b :: s, x :: y :: r => if b then (y :: (parts s r).1, x :: (parts s r).2) else (x :: (parts s r).1, y :: (parts s r).2)
  | _, _ => ([], [])
def meld {α : Type} : List Bool → List α → List α → List α
  | b :: s, u :: us, l :: ls => if b then l :: u :: meld s us ls else u :: l :: meld s us ls
  | _, _, _ => []
theorem parts_len {α : Type} : ∀ {s : List Bool} {xs : List α}, xs.length = 2 * s.length → (parts s xs).1.length = s.length ∧ (parts s xs).2.length = s.length
  | [], xs, _ => by simp [parts]
  | b :: s, [], h => by simp at h
  | b :: s, [x], h => by simp at h; omega
  | b :: s, x :: y :: r, h => by
    have ih := parts_len (s := s) (xs := r) (by simp at h; omega)
    cases b <;> simp [parts, ih]
theorem meld_len {α : Type} : ∀ {s : List Bool} {us ls : List α}, us.length = s.length → ls.length = s.length → (meld s us ls).length = 2 * s.length
  | [], us, ls, _, _ => by simp [meld]
  | b :: s, [], _, h, _ => by simp at h
  | b :: s, _ :: _, [], _, h => by simp at h
  | b :: s, u :: us, l :: ls, h1, h2 => by
    have ih := meld_len (s := s) (us := us) (ls := ls) (by simpa using h1) (by simpa using h2)
    cases b <;> simp [meld, ih] <;> omega
theorem parts_meld {α : Type} : ∀ {s : List Bool} {us ls : List α}, us.length = s.length → ls.length = s.length → parts s (meld s us ls) = (us, ls)
  | [], us, ls, h1, h2 => by
    have e1 : us = [] := List.eq_nil_of_length_eq_zero h1
    have e2 : ls = [] := List.eq_nil_of_length_eq_zero h2
    subst e1 e2
    rfl
  | b :: s, [], _, h, _ => by simp at h
  | b :: s, _ :: _, [], _, h => by simp at h
  | b :: s, u :: us, l :: ls, h1, h2 => by
    have ih := parts_meld (s := s) (us := us) (ls := ls) (by simpa using h1) (by simpa using h2)
    cases b <;> simp [meld, parts, ih]
theorem meld_parts {α : Type} : ∀ {s : List Bool} {xs : List α}, xs.length = 2 * s.length → meld s (parts s xs).1 (parts s xs).2 = xs
  | [], xs, h => by
    have e1 : xs = [] := List.eq_nil_of_length_eq_zero (by simpa using h)
    subst e1
    rfl
  | b :: s, [], h => by simp at h
  | b :: s, [x], h => by simp at h; omega
  | b :: s, x :: y :: r, h => by
    have ih := meld_parts (s := s) (xs := r) (by simp at h; omega)
    cases b <;> simp [parts, meld, ih]
/-- through the net -/
def ledL {α : Type} : Net → List α → List α
  | .sw b, xs => (match xs with
    | [x, y] => if b then [y, x] else [x, y]
    | _ => [])
  | .big f u l t, xs => meld t (ledL u (parts f xs).1) (ledL l (parts f xs).2)
/-- .. and back -/
def backL {α : Type} : Net → List α → List α
  | .sw b, xs => (match xs with
    | [x, y] => if b then [y, x] else [x, y]
    | _ => [])
  | .big f u l t, xs => meld f (backL u (parts t xs).1) (backL l (parts t xs).2)
theorem led_len {α : Type} : ∀ {k : Nat} {nt : Net} {xs : List α}, Net.Of k nt → xs.length = lanes k → (ledL nt xs).length = lanes k ∧ (backL nt xs).length = lanes k
  | 0, .sw b, xs, _, h => by
    match xs, h with
    | [x, y], _ => cases b <;> exact ⟨rfl, rfl⟩
  | k + 1, .big f u l t, xs, ⟨h1, h2, h3, h4⟩, h => by
    have pf := parts_len (s := f) (xs := xs) (by rw [h1]; exact h)
    have pt := parts_len (s := t) (xs := xs) (by rw [h4]; exact h)
    have a1 := led_len h2 (pf.1.trans h1)
    have a2 := led_len h3 (pf.2.trans h1)
    have b1 := led_len h2 (pt.1.trans h4)
    have b2 := led_len h3 (pt.2.trans h4)
    refine ⟨?_, ?_⟩
    · simp only [ledL]
      rw [meld_len (a1.1.trans h4.symm) (a2.1.trans h4.symm), h4]; rfl
    · simp only [backL]
      rw [meld_len (b1.2.trans h1.symm) (b2.2.trans h1.symm), h1]; rfl
theorem back_led {α : Type} : ∀ {k : Nat} {nt : Net} {xs : List α}, Net.Of k nt → xs.length = lanes k → backL nt (ledL nt xs) = xs ∧ ledL nt (backL nt xs) = xs
  | 0, .sw b, xs, _, h => by
    match xs, h with
    | [x, y], _ => cases b <;> exact ⟨rfl, rfl⟩
  | k + 1, .big f u l t, xs, ⟨h1, h2, h3, h4⟩, h => by
    have pf := parts_len (s := f) (xs := xs) (by rw [h1]; exact h)
    have pt := parts_len (s := t) (xs := xs) (by rw [h4]; exact h)
    have a1 := led_len h2 (pf.1.trans h1)
    have a2 := led_len h3 (pf.2.trans h1)
    have b1 := led_len h2 (pt.1.trans h4)
    have b2 := led_len h3 (pt.2.trans h4)
    refine ⟨?_, ?_⟩
    · simp only [ledL, backL]
      rw [parts_meld (a1.1.trans h4.symm) (a2.1.trans h4.symm)]
      simp only
      rw [(back_led h2 (pf.1.trans h1)).1, (back_led h3 (pf.2.trans h1)).1]
      exact meld_parts (by rw [h1]; exact h)
    · simp only [ledL, backL]
      rw [parts_meld (b1.2.trans h1.symm) (b2.2.trans h1.symm)]
      simp only
      rw [(back_led h2 (pt.1.trans h4)).2, (back_led h3 (pt.2.trans h4)).2]
      exact meld_parts (by rw [h4]; exact h)
def b2n (b : Bool) : Nat := if b then 1 else 0
/-- where the net leads lane k -/
def laneN : Net → Nat → Nat
  | .sw b, k => (k + b2n b) % 2
  | .big f u l t, k =>
    let side := (k + b2n (f.getD (k / 2) false)) % 2
    let at_ := if side = 0 then laneN u (k / 2) else laneN l (k / 2)
    2 * at_ + (side + b2n (t.getD at_ false)) % 2
theorem b2n_le (b : Bool) : b2n b ≤ 1 := by cases b <;> simp [b2n]
theorem meld_get {α : Type} : ∀ {s : List Bool} {us ls : List α} {a side : Nat}, us.length = s.length → ls.length = s.length → a < s.length → side < 2 → (meld s us ls)[2 * a + (side + b2n (s.getD a false)) % 2]? = if side = 0 then us[a]? else ls[a]?
  | [], _, _, _, _, _, _, h, _ => by simp at h
  | b :: s, [], _, _, _, h, _, _, _ => by simp at h
  | b :: s, _ :: _, [], _, _, _, h, _, _ => by simp at h
  | b :: s, u :: us, l :: ls, 0, side, h1, h2, _, hs => by
    rcases (show side = 0 ∨ side = 1 by omega) with rfl | rfl <;> cases b <;> simp [meld, b2n]
  | b :: s, u :: us, l :: ls, a + 1, side, h1, h2, h3, hs => by
    have ih := meld_get (s := s) (us := us) (ls := ls) (a := a) (side := side) (by simpa using h1) (by simpa using h2) (by simpa using h3) hs
    have e : 2 * (a + 1) + (side + b2n ((b :: s).getD (a + 1) false)) % 2 = (2 * a + (side + b2n (s.getD a false)) % 2) + 1 + 1 := by
      rw [List.getD_cons_succ]; omega
    rw [e]
    cases b <;> simp only [meld, List.getElem?_cons_succ, if_true, if_false, Bool.false_eq_true] <;> exact ih
theorem parts_get {α : Type} : ∀ {s : List Bool} {xs : List α} {k : Nat}, xs.length = 2 * s.length → k < xs.length → (if (k + b2n (s.getD (k / 2) false)) % 2 = 0 then (parts s xs).1[k / 2]? else (parts s xs).2[k / 2]?) = xs[k]?
  | [], xs, k, h, hk => by simp at h; subst h; simp at hk
  | b :: s, [], k, h, hk => by simp at hk
  | b :: s, [x], k, h, hk => by simp at h; omega
  | b :: s, x :: y :: r, 0, h, hk => by cases b <;> simp [parts, b2n]
  | b :: s, x :: y :: r, 1, h, hk => by cases b <;> simp [parts, b2n]
  | b :: s, x :: y :: r, k + 2, h, hk => by
    have ih := parts_get (s := s) (xs := r) (k := k) (by simp at h; omega) (by simpa using hk)
    have e : (k + 2) / 2 = k / 2 + 1 := by omega
    have e2 : (k + 2 + b2n ((b :: s).getD ((k + 2) / 2) false)) % 2 = (k + b2n (s.getD (k / 2) false)) % 2 := by
      rw [e, List.getD_cons_succ]; omega
    rw [e2, e]
    cases b <;> simpa only [parts, List.getElem?_cons_succ, if_true, if_false, Bool.false_eq_true] using ih
theorem lane_lt : ∀ {k : Nat} {nt : Net} {j : Nat}, Net.Of k nt → j < lanes k → laneN nt j < lanes k
  | 0, .sw b, j, _, h => by
    simp only [laneN, lanes]
    omega
  | k + 1, .big f u l t, j, ⟨h1, h2, h3, h4⟩, h => by
    simp only [lanes] at h
    have a1 := lane_lt (j := j / 2) h2 (by omega)
    have a2 := lane_lt (j := j / 2) h3 (by omega)
    simp only [laneN, lanes]
    split <;> omega
theorem led_lane {α : Type} : ∀ {k : Nat} {nt : Net} {xs : List α} {j : Nat}, Net.Of k nt → xs.length = lanes k → j < lanes k → (ledL nt xs)[laneN nt j]? = xs[j]?
  | 0, .sw b, xs, j, _, h, hj => by
    match xs, h with
    | [x, y], _ =>
      rcases (show j = 0 ∨ j = 1 by simp [lanes] at hj; omega) with rfl | rfl <;> cases b <;> simp [ledL, laneN, b2n]
  | k + 1, .big f u l t, xs, j, ⟨h1, h2, h3, h4⟩, h, hj => by
    simp only [lanes] at hj
    have pf := parts_len (s := f) (xs := xs) (by rw [h1]; exact h)
    have a1 := led_len h2 (pf.1.trans h1)
    have a2 := led_len h3 (pf.2.trans h1)
    have g := parts_get (s := f) (xs := xs) (k := j) (by rw [h1]; exact h) (by rw [h]; simp only [lanes]; omega)
    have i1 := led_lane (j := j / 2) h2 (pf.1.trans h1) (by omega)
    have i2 := led_lane (j := j / 2) h3 (pf.2.trans h1) (by omega)
    have l1 := lane_lt (j := j / 2) h2 (by omega)
    have l2 := lane_lt (j := j / 2) h3 (by omega)
    simp only [ledL, laneN]
    rw [meld_get (a1.1.trans h4.symm) (a2.1.trans h4.symm) (by rw [h4]; split <;> assumption) (by omega), ← g]
    split
    · exact i1
    · exact i2
theorem lane_surj : ∀ {k : Nat} {nt : Net} {l : Nat}, Net.Of k nt → l < lanes k → ∃ j, j < lanes k ∧ laneN nt j = l
  | 0, .sw b, l, _, h => by
    simp only [lanes] at h ⊢
    refine ⟨(l + b2n b) % 2, by omega, ?_⟩
    have := b2n_le b
    simp only [laneN]
    omega
  | k + 1, .big f u lo t, l, ⟨h1, h2, h3, h4⟩, h => by
    simp only [lanes] at h ⊢
    have key : ∀ (sub : Net), Net.Of k sub → ∃ q, q < lanes k ∧ laneN sub q = l / 2 := fun sub hs => lane_surj hs (by omega)
    have bt := b2n_le (t.getD (l / 2) false)
    by_cases hs : (l + b2n (t.getD (l / 2) false)) % 2 = 0
    · obtain ⟨q, hq, e⟩ := key u h2
      have bf := b2n_le (f.getD q false)
      refine ⟨2 * q + b2n (f.getD q false), by omega, ?_⟩
      have e1 : (2 * q + b2n (f.getD q false)) / 2 = q := by omega
      simp only [laneN, e1]
      rw [if_pos (by omega), e]
      omega
    · obtain ⟨q, hq, e⟩ := key lo h3
      have bf := b2n_le (f.getD q false)
      refine ⟨2 * q + (1 - b2n (f.getD q false)), by omega, ?_⟩
      have e1 : (2 * q + (1 - b2n (f.getD q false))) / 2 = q := by omega
      simp only [laneN, e1]
      rw [if_neg (by omega), e]
      omega
end BW

namespace BW
open PySem PySem.Spec PyProof.Rows L2
open scoped BW.Ev
/-! BwN3: things led through nets, by the program. -/
theorem zip_shift {α : Type} {f : List α} {t : Nat} {b : α} {i : Nat} {r : List (α × Nat)} (h : (b, i) :: r = (f.drop t).zipIdx t) : i = t ∧ t < f.length ∧ f[t]? = some b ∧ r = (f.drop (t + 1)).zipIdx (t + 1) ∧ f.drop t = b :: f.drop (t + 1) := by
  cases e : f.drop t with
  | nil => rw [e] at h; simp at h
  | cons c s =>
    rw [e, List.zipIdx_cons] at h
    simp only [List.cons.injEq, Prod.mk.injEq] at h
    obtain ⟨⟨eb, ei⟩, er⟩ := h
    subst eb er
    have hlt : t < f.length := by
      rcases Nat.lt_or_ge t f.length with h | h
      · exact h
      · rw [List.drop_eq_nil_of_le h] at e; cases e
    have e2 := List.drop_eq_getElem_cons hlt
    rw [e] at e2
    simp only [List.cons.injEq] at e2
    exact ⟨ei, hlt, by rw [List.getElem?_eq_getElem hlt, e2.1], by rw [e2.2], by rw [e2.2]⟩
theorem two_of {α : Type} {xs : List α} {t m : Nat} (h : xs.length = 2 * m) (ht : t < m) : ∃ x y, xs[2 * t]? = some x ∧ xs[2 * t + 1]? = some y ∧ xs.drop (2 * t) = x :: y :: xs.drop (2 * (t + 1)) := by
  have h1 : 2 * t < xs.length := by omega
  have h2 : 2 * t + 1 < xs.length := by omega
  exact ⟨xs[2 * t], xs[2 * t + 1], List.getElem?_eq_getElem h1, List.getElem?_eq_getElem h2, by rw [List.drop_eq_getElem_cons h1, List.drop_eq_getElem_cons h2]; rfl⟩
section
variable {T : Tab} {G : Nat → D} {n : Nat}
theorem part_ok [C_407 T] {f : List Bool} {xs : List D} (h : xs.length = 2 * f.length) (hl : f.length ≤ 1000) : callN T G (n + 1) 407 [.val (swsD f), .val (.list xs)] = some (.tuple [.list (parts f xs).1, .list (parts f xs).2], [.un, .un]) := by
  have hz : enumD 0 (f.map swD) = f.zipIdx.map fun p => PyData.tuple [.int (p.2 : Nat), swD p.1] := enumD_map (enc := swD) (xs := f) (n := 0)
  refine W.eq ?_
  rw [q_407]
  simp [bd_407, swsD, hz]
  refine W_forM (fun p : Bool × Nat => PyData.tuple [.int (p.2 : Nat), swD p.1]) (fun m ρ => ∃ t ups lows, m = (f.drop t).zipIdx t ∧ t ≤ f.length ∧ ups.length ≤ t ∧ lows.length ≤ t ∧ ups ++ (parts (f.drop t) (xs.drop (2 * t))).1 = (parts f xs).1 ∧ lows ++ (parts (f.drop t) (xs.drop (2 * t))).2 = (parts f xs).2 ∧ ρ = [.val (.tuple (f.map swD)), .val (.list xs), .own 1 (.list ups), .own 1 (.list lows), .un, .un]) rfl ⟨0, [], [], by simp, by omega, by simp, by simp, by simp, by simp, rfl⟩ ?_ ?_
  · rintro ⟨b, i⟩ m _ hp ⟨t, ups, lows, hm, ht, hu, hlo, h1, h2, rfl⟩
    obtain ⟨rfl, hlt, hb, hr, hd⟩ := zip_shift hm
    obtain ⟨x, y, hx, hy, hxs⟩ := two_of h hlt
    have gx : ixD xs (2 * (i : Int)) = some x := by
      have : ixD xs ((2 * i : Nat) : Int) = some x := by rw [ixD_at (by omega), hx]
      simpa using this
    have gy : ixD xs (2 * (i : Int) + 1) = some y := by
      have : ixD xs ((2 * i + 1 : Nat) : Int) = some y := by rw [ixD_at (by omega), hy]
      simpa using this
    have z1 := sizeOk_of (show ups.length < 16777216 by omega)
    have z2 := sizeOk_of (show lows.length < 16777216 by omega)
    rw [hd, hxs] at h1 h2
    cases b with
    | false =>
      simp [swD, gx, gy, z1, z2]
      exact ⟨i + 1, hr, by omega, ups ++ [x], by simp; omega, lows ++ [y], by simp; omega, by simpa [parts] using h1, by simpa [parts] using h2, rfl, rfl⟩
    | true =>
      simp [swD, gx, gy, z1, z2]
      exact ⟨i + 1, hr, by omega, ups ++ [y], by simp; omega, lows ++ [x], by simp; omega, by simpa [parts] using h1, by simpa [parts] using h2, rfl, rfl⟩
  · rintro _ ⟨t, ups, lows, hm, ht, hu, hlo, h1, h2, rfl⟩
    have : t = f.length := by
      have := congrArg List.length hm
      simp at this
      omega
    subst this
    simp [parts] at h1 h2
    simp [h1, h2]
theorem tog_ok [C_408 T] {f : List Bool} {us ls : List D} (h : us.length = f.length) (h' : ls.length = f.length) (hl : f.length ≤ 1000) : callN T G (n + 1) 408 [.val (swsD f), .val (.list us), .val (.list ls)] = some (.list (meld f us ls), [.un, .un, .un]) := by
  have hz : enumD 0 (f.map swD) = f.zipIdx.map fun p => PyData.tuple [.int (p.2 : Nat), swD p.1] := enumD_map (enc := swD) (xs := f) (n := 0)
  refine W.eq ?_
  rw [q_408]
  simp [bd_408, swsD, hz]
  refine W_forM (fun p : Bool × Nat => PyData.tuple [.int (p.2 : Nat), swD p.1]) (fun m ρ => ∃ t acc, m = (f.drop t).zipIdx t ∧ t ≤ f.length ∧ acc.length ≤ 2 * t ∧ acc ++ meld (f.drop t) (us.drop t) (ls.drop t) = meld f us ls ∧ ρ = [.val (.tuple (f.map swD)), .val (.list us), .val (.list ls), .own 1 (.list acc), .un, .un, .un]) rfl ⟨0, [], by simp, by omega, by simp, by simp, rfl⟩ ?_ ?_
  · rintro ⟨b, i⟩ m _ hp ⟨t, acc, hm, ht, ha, h1, rfl⟩
    obtain ⟨rfl, hlt, hb, hr, hd⟩ := zip_shift hm
    have h2 : i < us.length := by omega
    have h3 : i < ls.length := by omega
    have gx : ixD us (i : Int) = some us[i] := by rw [ixD_at h2, List.getElem?_eq_getElem h2]
    have gy : ixD ls (i : Int) = some ls[i] := by rw [ixD_at h3, List.getElem?_eq_getElem h3]
    have z1 := fits_of (show acc.length + 2 ≤ 16777216 by omega)
    rw [hd, List.drop_eq_getElem_cons h2, List.drop_eq_getElem_cons h3] at h1
    generalize us[i] = x at *
    generalize ls[i] = y at *
    cases b with
    | false =>
      simp [swD, gx, gy, z1]
      exact ⟨i + 1, hr, by omega, by omega, by simpa [meld] using h1⟩
    | true =>
      simp [swD, gx, gy, z1]
      exact ⟨i + 1, hr, by omega, by omega, by simpa [meld] using h1⟩
  · rintro _ ⟨t, acc, hm, ht, ha, h1, rfl⟩
    have : t = f.length := by
      have := congrArg List.length hm
      simp at this
      omega
    subst this
    simp [meld] at h1
    simp [h1]
theorem led_ok [C_409 T] : ∀ {k : Nat} {nt : Net} {xs : List D} {L : Nat}, Net.Of k nt → xs.length = lanes k → k ≤ 4 → k + 3 ≤ L → callN T G L 409 [.val nt.enc, .val (.list xs)] = some (.list (ledL nt xs), [.un, .un])
  | 0, .sw b, xs, L, _, h, _, hL => by
    obtain ⟨n, rfl⟩ : ∃ n, L = n + 1 := ⟨L - 1, by omega⟩
    match xs, h with
    | [x, y], _ =>
      cases b
      · simp only [Net.enc, swD]
        rw [q_409]
        simp [bd_409, ledL]
      · simp only [Net.enc, swD]
        rw [q_409]
        simp [bd_409, ledL]
  | k + 1, .big f u l t, xs, L, ⟨h1, h2, h3, h4⟩, h, hk, hL => by
    obtain ⟨n, rfl⟩ : ∃ n, L = n + 2 := ⟨L - 2, by omega⟩
    have hle := lanes_le k
    have hge := lanes_ge k
    have hp : 4 ^ k ≤ 4 ^ 4 := Nat.pow_le_pow_right (by decide) (by omega)
    have pf := parts_len (s := f) (xs := xs) (by rw [h1]; exact h)
    have e1 := part_ok (T := T) (G := G) (n := n) (f := f) (xs := xs) (by rw [h1]; exact h) (by omega)
    have i1 := led_ok (L := n + 1) h2 (pf.1.trans h1) (by omega) (by omega)
    have i2 := led_ok (L := n + 1) h3 (pf.2.trans h1) (by omega) (by omega)
    have a1 := led_len h2 (pf.1.trans h1)
    have a2 := led_len h3 (pf.2.trans h1)
    have e2 := tog_ok (T := T) (G := G) (n := n) (f := t) (a1.1.trans h4.symm) (a2.1.trans h4.symm) (by omega)
    have hn : ¬ ((xs.length : Int) = 2) := by rw [h]; simp only [lanes]; omega
    simp only [Net.enc]
    rw [q_409]
    simp [bd_409, hn, e1, i1, i2, e2]
    exact rfl
theorem back_ok [C_410 T] : ∀ {k : Nat} {nt : Net} {xs : List D} {L : Nat}, Net.Of k nt → xs.length = lanes k → k ≤ 4 → k + 3 ≤ L → callN T G L 410 [.val nt.enc, .val (.list xs)] = some (.list (backL nt xs), [.un, .un])
  | 0, .sw b, xs, L, _, h, _, hL => by
    obtain ⟨n, rfl⟩ : ∃ n, L = n + 1 := ⟨L - 1, by omega⟩
    match xs, h with
    | [x, y], _ =>
      cases b
      · simp only [Net.enc, swD]
        rw [q_410]
        simp [bd_410, backL]
      · simp only [Net.enc, swD]
        rw [q_410]
        simp [bd_410, backL]
  | k + 1, .big f u l t, xs, L, ⟨h1, h2, h3, h4⟩, h, hk, hL => by
    obtain ⟨n, rfl⟩ : ∃ n, L = n + 2 := ⟨L - 2, by omega⟩
    have hle := lanes_le k
    have hge := lanes_ge k
    have hp : 4 ^ k ≤ 4 ^ 4 := Nat.pow_le_pow_right (by decide) (by omega)
    have pf := parts_len (s := t) (xs := xs) (by rw [h4]; exact h)
    have e1 := part_ok (T := T) (G := G) (n := n) (f := t) (xs := xs) (by rw [h4]; exact h) (by omega)
    have i1 := back_ok (L := n + 1) h2 (pf.1.trans h4) (by omega) (by omega)
    have i2 := back_ok (L := n + 1) h3 (pf.2.trans h4) (by omega) (by omega)
    have a1 := led_len h2 (pf.1.trans h4)
    have a2 := led_len h3 (pf.2.trans h4)
    have e2 := tog_ok (T := T) (G := G) (n := n) (f := f) (a1.2.trans h1.symm) (a2.2.trans h1.symm) (by omega)
    have hn : ¬ ((xs.length : Int) = 2) := by rw [h]; simp only [lanes]; omega
    simp only [Net.enc]
    rw [q_410]
    simp [bd_410, hn, e1, i1, i2, e2]
    exact rfl
theorem sws_at {l : List Bool} {j : Nat} (h : j < l.length) : idxD (swsD l) (.int (j : Int)) = some (.int (b2n (l.getD j false) : Nat)) := by
  have e : ixD (l.map swD) (j : Int) = some (swD l[j]) := by rw [ixD_at (by simpa using h), List.getElem?_map, List.getElem?_eq_getElem h]; rfl
  have e2 : l.getD j false = l[j] := by simp [List.getD, h]
  rw [e2]
  simp only [swsD]
  cases hb : l[j] <;> rw [hb] at e <;> simp [h, e, swD, b2n] <;> exact e
theorem lane_ok [C_411 T] : ∀ {k : Nat} {nt : Net} {j : Nat} {L : Nat}, Net.Of k nt → j < lanes k → k + 1 ≤ L → callN T G L 411 [.val nt.enc, .val (.int (j : Nat))] = some (.int (laneN nt j : Nat), [.un, .un])
  | 0, .sw b, j, L, _, h, hL => by
    obtain ⟨n, rfl⟩ : ∃ n, L = n + 1 := ⟨L - 1, by omega⟩
    cases b
    · simp only [Net.enc, swD]
      rw [q_411]
      simp [bd_411, laneN, b2n]
    · simp only [Net.enc, swD]
      rw [q_411]
      simp [bd_411, laneN, b2n]
  | k + 1, .big f u l t, j, L, ⟨h1, h2, h3, h4⟩, h, hL => by
    obtain ⟨n, rfl⟩ : ∃ n, L = n + 1 := ⟨L - 1, by omega⟩
    simp only [lanes] at h
    have f1 := sws_at (l := f) (j := j / 2) (by omega)
    have l1 := lane_lt (j := j / 2) h2 (by omega)
    have l2 := lane_lt (j := j / 2) h3 (by omega)
    have i1 := lane_ok (j := j / 2) (L := n) h2 (by omega) (by omega)
    have i2 := lane_ok (j := j / 2) (L := n) h3 (by omega) (by omega)
    have t1 := sws_at (l := t) (j := laneN u (j / 2)) (by omega)
    have t2 := sws_at (l := t) (j := laneN l (j / 2)) (by omega)
    push_cast at f1 i1 i2
    have el : laneN (.big f u l t) j = 2 * (if (j + b2n (f.getD (j / 2) false)) % 2 = 0 then laneN u (j / 2) else laneN l (j / 2)) + ((j + b2n (f.getD (j / 2) false)) % 2 + b2n (t.getD (if (j + b2n (f.getD (j / 2) false)) % 2 = 0 then laneN u (j / 2) else laneN l (j / 2)) false)) % 2 := rfl
    rw [el]
    generalize b2n (f.getD (j / 2) false) = bf at *
    generalize laneN u (j / 2) = x at *
    generalize laneN l (j / 2) = y at *
    simp only [Net.enc]
    refine W.eq ?_
    rw [q_411]
    simp [bd_411, f1]
    rcases (show (j + bf) % 2 = 0 ∨ (j + bf) % 2 = 1 by omega) with hs | hs
    · have hs' : ((j : Int) + (bf : Int)) % 2 = 0 := by omega
      rw [hs', hs]
      simp [i1, t1]
    · have hs' : ((j : Int) + (bf : Int)) % 2 = 1 := by omega
      rw [hs', hs]
      simp [i2, t2]
end
end BW

namespace BW
open PySem PySem.Spec PyProof.Rows L2
open scoped BW.Ev
/-! BwM2: bits, parities, sums without carry. -/
theorem xor_bit (x y : Nat) : (x ^^^ y) % 2 = (x % 2 + y % 2) % 2 := by
  have := Nat.xor_mod_two_pow (a := x) (b := y) (n := 1)
  rw [Nat.pow_one] at this
  rw [this]
  rcases Nat.mod_two_eq_zero_or_one x with h | h <;> rcases Nat.mod_two_eq_zero_or_one y with h2 | h2 <;> rw [h, h2] <;> rfl
theorem xor_half (x y : Nat) : (x ^^^ y) / 2 = x / 2 ^^^ y / 2 := Nat.xor_div_two
theorem or_bit (x y : Nat) : (x ||| y) % 2 = x % 2 + y % 2 - x % 2 * (y % 2) := by
  have := Nat.or_mod_two_pow (a := x) (b := y) (n := 1)
  rw [Nat.pow_one] at this
  rw [this]
  rcases Nat.mod_two_eq_zero_or_one x with h | h <;> rcases Nat.mod_two_eq_zero_or_one y with h2 | h2 <;> rw [h, h2] <;> rfl
theorem or_half (x y : Nat) : (x ||| y) / 2 = x / 2 ||| y / 2 := Nat.or_div_two
theorem or_sum : ∀ (x y : Nat), x ||| y = (x ^^^ y) + (x &&& y) := by
  intro x
  induction x using Nat.strongRecOn with
  | ind x ih =>
    intro y
    by_cases hx : x = 0
    · subst hx
      simp
    · have h := ih (x / 2) (by omega) (y / 2)
      have a1 := or_bit x y
      have a2 := xor_bit x y
      have a3 := and_bit x y
      have b1 := or_half x y
      have b2 := xor_half x y
      have b3 := and_half x y
      rw [h, ← b2, ← b3] at b1
      rcases Nat.mod_two_eq_zero_or_one x with h1 | h1 <;> rcases Nat.mod_two_eq_zero_or_one y with h2 | h2 <;> rw [h1, h2] at a1 a2 a3 <;> omega
theorem bxor_nat (x y : Nat) : Builtin.bitXor (x : Int) (y : Int) = ((x ^^^ y : Nat) : Int) := by
  have e : Builtin.bitOr (x : Int) (y : Int) = ((x ||| y : Nat) : Int) := by
    unfold Builtin.bitOr Builtin.bitAnd Builtin.bitNot
    rw [decide_eq_false (show ¬ (0 : Int) ≤ -(x : Int) - 1 by omega), decide_eq_false (show ¬ (0 : Int) ≤ -(y : Int) - 1 by omega)]
    simp only
    rw [show (-(-(x : Int) - 1) - 1).toNat = x by omega, show (-(-(y : Int) - 1) - 1).toNat = y by omega]
    omega
  unfold Builtin.bitXor
  rw [e, band_nat, or_sum]
  omega
theorem pc_xor : ∀ (x y : Nat), pc (x ^^^ y) % 2 = (pc x + pc y) % 2 := by
  intro x
  induction x using Nat.strongRecOn with
  | ind x ih =>
    intro y
    by_cases hx : x = 0
    · subst hx
      rw [Nat.zero_xor, pc_zero, Nat.zero_add]
    · have := ih (x / 2) (by omega) (y / 2)
      have b := xor_bit x y
      have h := xor_half x y
      rw [pc_half (x ^^^ y), h, pc_half x, pc_half y]
      omega
theorem nat_ext2 {x y : Nat} (h1 : x % 2 = y % 2) (h2 : x / 2 = y / 2) : x = y := by omega
theorem bm_xor (x y : Nat) : ∀ ms : List Nat, bm (x ^^^ y) ms = bm x ms ^^^ bm y ms
  | [] => by simp [bm]
  | m :: ms => by
    have ih := bm_xor x y ms
    have hp : pc ((x ^^^ y) &&& m) % 2 = (pc (x &&& m) + pc (y &&& m)) % 2 := by rw [Nat.and_xor_distrib_right, pc_xor]
    have hb := xor_bit (bm x (m :: ms)) (bm y (m :: ms))
    have hh := xor_half (bm x (m :: ms)) (bm y (m :: ms))
    have e1 : bm x (m :: ms) % 2 = pc (x &&& m) % 2 := by simp only [bm]; omega
    have e2 : bm y (m :: ms) % 2 = pc (y &&& m) % 2 := by simp only [bm]; omega
    have e3 : bm x (m :: ms) / 2 = bm x ms := by simp only [bm]; omega
    have e4 : bm y (m :: ms) / 2 = bm y ms := by simp only [bm]; omega
    rw [e3, e4, ← ih] at hh
    refine nat_ext2 ?_ ?_
    · rw [hb, e1, e2]
      simp only [bm]
      omega
    · rw [hh]
      simp only [bm]
      omega
/-- the m lowest bits -/
def bitsL (x : Nat) : Nat → List Nat
  | 0 => []
  | m + 1 => x % 2 :: bitsL (x / 2) m
theorem bitsL_len : ∀ (m x : Nat), (bitsL x m).length = m
  | 0, _ => rfl
  | m + 1, x => by simp [bitsL, bitsL_len m]
theorem bitsL_app : ∀ (l x h y : Nat), y < 2 ^ l → bitsL y l ++ bitsL x h = bitsL (x * 2 ^ l + y) (l + h)
  | 0, x, h, y, hy => by
    have : y = 0 := by simpa using hy
    subst this
    simp [bitsL]
  | l + 1, x, h, y, hy => by
    rw [show l + 1 + h = (l + h) + 1 by omega]
    simp only [bitsL, List.cons_append]
    rw [bitsL_app l x h (y / 2) (by rw [Nat.pow_succ] at hy; omega)]
    rw [Nat.pow_succ, ← Nat.mul_assoc]
    congr 1
    · omega
    · congr 1
      omega
theorem bits_dot : ∀ (m x y : Nat), y < 2 ^ m → (((bitsL x m).zip (bitsL y m)).map fun p => p.1 * p.2).sum = pc (x &&& y)
  | 0, x, y, hy => by
    have : y = 0 := by simpa using hy
    subst this
    simp [bitsL, pc_zero]
  | m + 1, x, y, hy => by
    simp only [bitsL, List.zip_cons_cons, List.map_cons, List.sum_cons]
    rw [bits_dot m (x / 2) (y / 2) (by rw [Nat.pow_succ] at hy; omega), pc_half (x &&& y), and_bit, and_half]
theorem bits_bm (x : Nat) : ∀ ms : List Nat, bitsL (bm x ms) ms.length = ms.map fun m => pc (x &&& m) % 2
  | [] => rfl
  | m :: ms => by
    simp only [List.length_cons, bitsL, List.map_cons]
    rw [show bm x (m :: ms) / 2 = bm x ms by simp only [bm]; omega, bits_bm x ms]
    congr 1
    simp only [bm]
    omega
end BW

namespace BW
open PySem PySem.Spec PyProof.Rows L2
open scoped BW.Ev
/-! BwN4: the switches' sides: plainly. -/
def al (k : Nat) : Nat := k ^^^ 1
theorem al_half (k : Nat) : al k / 2 = k / 2 := by
  unfold al
  rw [Nat.xor_div_two]
  simp
theorem al_mod (k : Nat) : al k % 2 = (k + 1) % 2 := by
  unfold al
  have h := Nat.xor_mod_two_pow (a := k) (b := 1) (n := 1)
  rw [Nat.pow_one] at h
  rw [h]
  rcases Nat.mod_two_eq_zero_or_one k with e | e
  · rw [e, show (k + 1) % 2 = 1 by omega]
    rfl
  · rw [e, show (k + 1) % 2 = 0 by omega]
    rfl
theorem al_al (k : Nat) : al (al k) = k := by
  have := al_half (al k); have := al_half k; have := al_mod (al k); have := al_mod k
  omega
theorem al_ne (k : Nat) : al k ≠ k := by
  have := al_mod k
  omega
theorem al_lt {n k : Nat} (hn : n % 2 = 0) (h : k < n) : al k < n := by
  have := al_half k; have := al_mod k
  omega
theorem bxor_al (k : Nat) : Builtin.bitXor (k : Int) 1 = ((al k : Nat) : Int) := by
  exact bxor_nat k 1
/-- a pairing without fixed points -/
structure Pairs (n : Nat) (be : Nat → Nat) : Prop where
  lt : ∀ k, k < n → be k < n
  bb : ∀ k, k < n → be (be k) = k
  ne : ∀ k, k < n → be k ≠ k
def opp (x y : Option Nat) : Prop := (x = some 0 ∧ y = some 1) ∨ (x = some 1 ∧ y = some 0)
theorem opp_ne {x y : Option Nat} (h : opp x y) : x ≠ none ∧ y ≠ none := by
  rcases h with ⟨rfl, rfl⟩ | ⟨rfl, rfl⟩ <;> simp
/-- each one that has a side: its two neighbours have the other -/
def Settled (n : Nat) (be : Nat → Nat) (s : Nat → Option Nat) : Prop := ∀ x, x < n → s x ≠ none → opp (s x) (s (al x)) ∧ opp (s x) (s (be x))
structure Going (n : Nat) (be : Nat → Nat) (b k : Nat) (s : Nat → Option Nat) : Prop where
  bl : b < n
  kl : k < n
  a : ∀ x, x < n → s x ≠ none → opp (s x) (s (al x))
  g : ∀ x, x < n → s x ≠ none → opp (s x) (s (be x)) ∨ (x = b ∧ s b = some 0) ∨ be x = k
  h : (k = b ∧ s b = none ∧ ∀ x, x < n → s x ≠ none → opp (s x) (s (be x))) ∨ (s b = some 0 ∧ s (be k) = some 1 ∧ (s k ≠ none → k = b))
/-- one turn -/
def put2 (k : Nat) (s : Nat → Option Nat) (x : Nat) : Option Nat := if x = al k then some 1 else if x = k then some 0 else s x
theorem going_step {n : Nat} {be : Nat → Nat} {b k : Nat} {s : Nat → Option Nat} (hn : n % 2 = 0) (P : Pairs n be) (G : Going n be b k s) (hk : s k = none) : Going n be b (be (al k)) (put2 k s) := by
  have kl := G.kl
  have akl := al_lt hn kl
  have hak : s (al k) = none := by
    cases e : s (al k) with
    | none => rfl
    | some v =>
      have := (opp_ne (G.a (al k) akl (by simp [e]))).2
      rw [al_al] at this
      exact absurd hk this
  have p0 : put2 k s k = some 0 := by
    unfold put2
    rw [if_neg (al_ne k).symm, if_pos rfl]
  have p1 : put2 k s (al k) = some 1 := by
    unfold put2
    rw [if_pos rfl]
  have po : ∀ x, x ≠ k → x ≠ al k → put2 k s x = s x := fun x h1 h2 => by
    unfold put2
    rw [if_neg h2, if_neg h1]
  have pn : ∀ x, s x ≠ none → put2 k s x = s x := fun x hx => po x (fun e => hx (e ▸ hk)) (fun e => hx (e ▸ hak))
  refine ⟨G.bl, P.lt _ akl, fun x xl hx => ?_, fun x xl hx => ?_, .inr ⟨?_, ?_, fun hx => ?_⟩⟩
  · by_cases e1 : x = al k
    · subst e1
      rw [al_al, p0, p1]
      exact .inr ⟨rfl, rfl⟩
    by_cases e2 : x = k
    · subst e2
      rw [p0, p1]
      exact .inl ⟨rfl, rfl⟩
    rw [po x e2 e1] at hx ⊢
    have := G.a x xl hx
    rw [pn _ (opp_ne this).2]
    exact this
  · by_cases e1 : x = al k
    · subst e1
      exact .inr (.inr rfl)
    by_cases e2 : x = k
    · subst e2
      rcases G.h with ⟨e, _⟩ | ⟨_, h2, _⟩
      · exact .inr (.inl ⟨e, by rw [← e]; exact p0⟩)
      · exact .inl (by rw [p0, pn (be x) (by rw [h2]; simp), h2]; exact .inl ⟨rfl, rfl⟩)
    rw [po x e2 e1] at hx ⊢
    rcases G.g x xl hx with h | ⟨h, h0⟩ | h
    · exact .inl (by rw [pn _ (opp_ne h).2]; exact h)
    · exact .inr (.inl ⟨h, by rw [pn b (by rw [h0]; simp)]; exact h0⟩)
    · rcases G.h with ⟨_, _, h1⟩ | ⟨_, h2, _⟩
      · have := (opp_ne (h1 x xl hx)).2
        rw [h] at this
        exact absurd hk this
      · have ex : be k = x := by rw [← h, P.bb x xl]
        rw [ex] at h2
        exact .inl (by rw [h, p0, h2]; exact .inr ⟨rfl, rfl⟩)
  · rcases G.h with ⟨e, _⟩ | ⟨h0, _⟩
    · rw [← e]; exact p0
    · rw [pn b (by rw [h0]; simp)]; exact h0
  · rw [P.bb _ akl]; exact p1
  · by_cases e1 : be (al k) = al k
    · exact absurd e1 (P.ne _ akl)
    by_cases e2 : be (al k) = k
    · rcases G.h with ⟨e, _⟩ | ⟨_, h2, _⟩
      · exact e2.trans e
      · have : be k = al k := by rw [← e2, P.bb _ akl, e2]
        rw [this, hak] at h2
        cases h2
    rw [po _ e2 e1] at hx
    rcases G.g _ (P.lt _ akl) hx with h | ⟨h, _⟩ | h
    · rw [P.bb _ akl] at h
      exact absurd hak (opp_ne h).2
    · exact h
    · rw [P.bb _ akl] at h
      exact absurd h (al_ne k)
theorem going_end {n : Nat} {be : Nat → Nat} {b k : Nat} {s : Nat → Option Nat} (P : Pairs n be) (G : Going n be b k s) (hk : s k ≠ none) : Settled n be s ∧ s b ≠ none := by
  rcases G.h with ⟨e, h0, _⟩ | ⟨h0, h1, h2⟩
  · rw [e] at hk
    exact absurd h0 hk
  · have e := h2 hk
    subst e
    refine ⟨fun x xl hx => ⟨G.a x xl hx, ?_⟩, by rw [h0]; simp⟩
    rcases G.g x xl hx with h | ⟨rfl, _⟩ | h
    · exact h
    · rw [h0, h1]; exact .inl ⟨rfl, rfl⟩
    · have ex : be k = x := by rw [← h, P.bb x xl]
      rw [ex] at h1
      rw [h, h0, h1]
      exact .inr ⟨rfl, rfl⟩
theorem going_start {n : Nat} {be : Nat → Nat} {b : Nat} {s : Nat → Option Nat} (hb : b < n) (S : Settled n be s) (h0 : s b = none) : Going n be b b s :=
  ⟨hb, hb, fun x xl hx => (S x xl hx).1, fun x xl hx => .inl (S x xl hx).2, .inl ⟨rfl, h0, fun x xl hx => (S x xl hx).2⟩⟩
/-- how many have no side yet -/
def wait (n : Nat) (s : Nat → Option Nat) : Nat := ((List.range n).filter fun x => (s x).isNone).length
theorem filter_lt {α : Type} {p q : α → Bool} : ∀ {l : List α}, (∀ x ∈ l, p x = true → q x = true) → (∃ x ∈ l, q x = true ∧ p x = false) → (l.filter p).length < (l.filter q).length
  | [], _, ⟨x, h, _⟩ => by cases h
  | x :: l, h1, h2 => by
    have le : ∀ {l : List α}, (∀ x ∈ l, p x = true → q x = true) → (l.filter p).length ≤ (l.filter q).length := by
      intro l
      induction l with
      | nil => intro _; exact Nat.le_refl _
      | cons y l ih =>
        intro h
        have ih := ih fun z hz => h z (List.mem_cons_of_mem _ hz)
        have hy := h y (List.mem_cons_self ..)
        rw [List.filter_cons, List.filter_cons]
        cases hp : p y
        · cases hq : q y <;> simp <;> omega
        · rw [hy hp]; simp; exact ih
    have hl : ∀ y ∈ l, p y = true → q y = true := fun y hy => h1 y (List.mem_cons_of_mem _ hy)
    obtain ⟨y, hy, hq, hp⟩ := h2
    rw [List.filter_cons, List.filter_cons]
    rcases List.mem_cons.mp hy with rfl | hy
    · rw [hq, hp]
      have := le hl
      simp
      omega
    · have := filter_lt hl ⟨y, hy, hq, hp⟩
      cases hpx : p x
      · cases hqx : q x <;> simp <;> omega
      · rw [h1 x (List.mem_cons_self ..) hpx]; simp; exact this
theorem wait_step {n k : Nat} {s : Nat → Option Nat} (kl : k < n) (hk : s k = none) : wait n (put2 k s) < wait n s := by
  refine filter_lt (fun x _ hx => ?_) ⟨k, List.mem_range.mpr kl, by rw [hk]; rfl, ?_⟩
  · unfold put2 at hx
    split at hx
    · cases hx
    · split at hx
      · cases hx
      · exact hx
  · unfold put2
    rw [if_neg (al_ne k).symm, if_pos rfl]
    rfl
/-! ### orders -/
structure Ord (n : Nat) (o : List Nat) : Prop where
  len : o.length = n
  nd : o.Nodup
  lt : ∀ x ∈ o, x < n
theorem pig : ∀ (l m : List Nat), l.Nodup → (∀ x ∈ l, x ∈ m) → l.length ≤ m.length
  | [], m, _, _ => Nat.zero_le _
  | x :: l, m, nd, h => by
    rw [List.nodup_cons] at nd
    have hx := h x (List.mem_cons_self ..)
    have := pig l (m.erase x) nd.2 fun y hy => by
      rw [List.mem_erase_of_ne (by rintro rfl; exact nd.1 hy)]
      exact h y (List.mem_cons_of_mem _ hy)
    rw [List.length_erase_of_mem hx] at this
    have := List.length_pos_of_mem hx
    rw [List.length_cons]
    omega
theorem Ord.mem {n : Nat} {o : List Nat} (O : Ord n o) {x : Nat} (h : x < n) : x ∈ o := by
  apply Classical.byContradiction
  intro hx
  have := pig (x :: o) (List.range n) (List.nodup_cons.mpr ⟨hx, O.nd⟩) fun y hy => by
    rcases List.mem_cons.mp hy with rfl | hy
    · exact List.mem_range.mpr h
    · exact List.mem_range.mpr (O.lt y hy)
  rw [List.length_cons, List.length_range, O.len] at this
  omega
/-- the number at a place -/
def ov (o : List Nat) (k : Nat) : Nat := o.getD k 0
theorem Ord.at {n : Nat} {o : List Nat} (O : Ord n o) {k : Nat} (h : k < n) : o[k]? = some (ov o k) ∧ ov o k < n := by
  have hk : k < o.length := by rw [O.len]; exact h
  have e := List.getElem?_eq_getElem hk
  unfold ov
  rw [List.getD_eq_getElem?_getD, e]
  exact ⟨rfl, O.lt _ (List.getElem_mem hk)⟩
theorem Ord.inj {n : Nat} {o : List Nat} (O : Ord n o) {j k : Nat} (hj : j < n) (hk : k < n) (e : ov o j = ov o k) : j = k := by
  have h1 := (O.at hj).1
  have h2 := (O.at hk).1
  rw [e, ← h2] at h1
  exact (List.getElem?_inj (by rw [O.len]; exact hj) O.nd).mp h1
/-- the place whose number is beside -/
def bes (o A : List Nat) (k : Nat) : Nat := A.getD (al (ov o k)) 0
theorem bes_ok {n : Nat} {o A : List Nat} (hn : n % 2 = 0) (O : Ord n o) (hA : ∀ j, j < n → A[ov o j]? = some j) {k : Nat} (h : k < n) : A[al (ov o k)]? = some (bes o A k) ∧ bes o A k < n ∧ ov o (bes o A k) = al (ov o k) := by
  have h1 := O.at h
  have h2 := al_lt hn h1.2
  obtain ⟨j, hj, ej⟩ := List.mem_iff_getElem.mp (O.mem h2)
  rw [O.len] at hj
  have e1 : ov o j = al (ov o k) := by
    have := (O.at hj).1
    rw [List.getElem?_eq_getElem (by rw [O.len]; exact hj)] at this
    rw [← Option.some.inj this, ej]
  have e2 := hA j hj
  rw [e1] at e2
  have e3 : bes o A k = j := by
    unfold bes
    rw [List.getD_eq_getElem?_getD, e2]
    rfl
  rw [e3]
  exact ⟨e2, hj, e1⟩
theorem bes_pairs {n : Nat} {o A : List Nat} (hn : n % 2 = 0) (O : Ord n o) (hA : ∀ j, j < n → A[ov o j]? = some j) : Pairs n (bes o A) := by
  have ok := fun {k} (h : k < n) => bes_ok hn O hA h
  refine ⟨fun k h => (ok h).2.1, fun k h => ?_, fun k h e => ?_⟩
  · have h1 := ok h
    have h2 := ok h1.2.1
    refine O.inj h2.2.1 h ?_
    rw [h2.2.2, h1.2.2, al_al]
  · have := (ok h).2.2
    rw [e] at this
    exact absurd this.symm (al_ne _)
/-! ### the two halves -/
def pk (s : Nat → Nat) (side t : Nat) : Nat := if s (2 * t) = side then 2 * t else 2 * t + 1
def inO (o : List Nat) (s : Nat → Nat) (side m : Nat) : List Nat := (List.range m).map fun t => ov o (pk s side t) / 2
theorem al_two (t : Nat) : al (2 * t) = 2 * t + 1 := by
  have := al_half (2 * t); have := al_mod (2 * t)
  omega
theorem pk_half (s : Nat → Nat) (side t : Nat) : pk s side t / 2 = t := by
  unfold pk
  split <;> omega
theorem pk_lt {s : Nat → Nat} {side t m : Nat} (h : t < m) : pk s side t < 2 * m := by
  have := pk_half s side t
  omega
structure Sides (m : Nat) (o : List Nat) (s : Nat → Nat) : Prop where
  a : ∀ x, x < 2 * m → s x + s (al x) = 1
  b : ∀ x y, x < 2 * m → y < 2 * m → ov o y = al (ov o x) → s x + s y = 1
theorem Sides.pk {m : Nat} {o : List Nat} {s : Nat → Nat} (S : Sides m o s) {side t : Nat} (hs : side ≤ 1) (h : t < m) : s (pk s side t) = side := by
  have h1 := S.a (2 * t) (by omega)
  rw [al_two] at h1
  unfold BW.pk
  split
  · assumption
  · omega
theorem Sides.pk_eq {m : Nat} {o : List Nat} {s : Nat → Nat} (S : Sides m o s) {side k : Nat} (h : k < 2 * m) (e : s k = side) : BW.pk s side (k / 2) = k := by
  have h1 := S.a (2 * (k / 2)) (by omega)
  rw [al_two] at h1
  unfold BW.pk
  rcases Nat.mod_two_eq_zero_or_one k with hk | hk
  · have : 2 * (k / 2) = k := by omega
    rw [this, if_pos e]
  · have : 2 * (k / 2) + 1 = k := by omega
    rw [this] at h1
    rw [if_neg (by omega), this]
theorem inO_ord {m : Nat} {o : List Nat} {s : Nat → Nat} (O : Ord (2 * m) o) (S : Sides m o s) {side : Nat} (hs : side ≤ 1) : Ord m (inO o s side m) := by
  refine ⟨by simp [inO], ?_, fun x hx => ?_⟩
  · unfold inO
    rw [List.nodup_iff_pairwise_ne, List.pairwise_map]
    refine List.Pairwise.imp_of_mem ?_ List.nodup_range
    intro t u ht hu ne e
    simp at ht hu
    have p1 := pk_lt (s := s) (side := side) ht
    have p2 := pk_lt (s := s) (side := side) hu
    have o1 := (O.at p1).2
    by_cases q : ov o (BW.pk s side t) = ov o (BW.pk s side u)
    · have := O.inj p1 p2 q
      have h1 := pk_half s side t
      rw [this, pk_half] at h1
      exact ne h1.symm
    · have e2 : ov o (BW.pk s side u) = al (ov o (BW.pk s side t)) := by
        have := al_half (ov o (BW.pk s side t)); have := al_mod (ov o (BW.pk s side t))
        omega
      have := S.b _ _ p1 p2 e2
      rw [S.pk hs ht, S.pk hs hu] at this
      omega
  · unfold inO at hx
    obtain ⟨t, ht, rfl⟩ := List.mem_map.mp hx
    have := (O.at (pk_lt (s := s) (side := side) (List.mem_range.mp ht))).2
    omega
theorem inO_at {m : Nat} {o : List Nat} {s : Nat → Nat} (S : Sides m o s) {k : Nat} (h : k < 2 * m) : ov (inO o s (s k) m) (k / 2) = ov o k / 2 := by
  have h2 : k / 2 < m := by omega
  have e : (inO o s (s k) m)[k / 2]? = some (ov o (BW.pk s (s k) (k / 2)) / 2) := by
    unfold inO
    rw [List.getElem?_map, List.getElem?_range h2]
    rfl
  rw [S.pk_eq h rfl] at e
  show (inO o s (s k) m).getD (k / 2) 0 = _
  rw [List.getD_eq_getElem?_getD, e]
  rfl
/-- the place of a number -/
def plc (o : List Nat) (x : Nat) : Nat := o.idxOf x
theorem plc_at {n : Nat} {o : List Nat} (O : Ord n o) {x : Nat} (h : x < n) : plc o x < n ∧ ov o (plc o x) = x := by
  have hm := O.mem h
  have h1 := List.idxOf_lt_length_of_mem hm
  have h2 : plc o x < n := by rw [← O.len]; exact h1
  refine ⟨h2, ?_⟩
  have e : o[List.idxOf x o]? = some (ov o (plc o x)) := (O.at h2).1
  rw [List.getElem?_eq_getElem h1] at e
  rw [← Option.some.inj e]
  exact List.getElem_idxOf h1
/-- a net of these switches leads as the order says -/
theorem lane_big {e : Nat} {o : List Nat} {s : Nat → Nat} {up lo : Net} (O : Ord (lanes (e + 1)) o) (S : Sides (lanes e) o s)
    (hu : ∀ j, j < lanes e → laneN up j = ov (inO o s 0 (lanes e)) j) (hl : ∀ j, j < lanes e → laneN lo j = ov (inO o s 1 (lanes e)) j) {j : Nat} (hj : j < lanes (e + 1)) :
    laneN (.big ((List.range (lanes e)).map fun t => decide (s (2 * t) = 1)) up lo ((List.range (lanes e)).map fun a => decide (s (plc o (2 * a)) = 1))) j = ov o j := by
  have hn : lanes (e + 1) = 2 * lanes e := rfl
  rw [hn] at hj O
  have hj2 : j / 2 < lanes e := by omega
  have sj := S.a j hj
  have oj := (O.at hj).2
  have ha : ov o j / 2 < lanes e := by omega
  have g1 : ((List.range (lanes e)).map fun t => decide (s (2 * t) = 1)).getD (j / 2) false = decide (s (2 * (j / 2)) = 1) := by
    rw [List.getD_eq_getElem?_getD, List.getElem?_map, List.getElem?_range hj2]
    rfl
  have side : (j + b2n (((List.range (lanes e)).map fun t => decide (s (2 * t) = 1)).getD (j / 2) false)) % 2 = s j := by
    rw [g1]
    have h1 := S.a (2 * (j / 2)) (by omega)
    rw [al_two] at h1
    rcases Nat.mod_two_eq_zero_or_one j with h | h
    · have e1 : 2 * (j / 2) = j := by omega
      rw [e1]
      by_cases hs : s j = 1
      · simp [hs, b2n]; omega
      · have : s j = 0 := by omega
        simp [this, b2n]; omega
    · have e1 : 2 * (j / 2) + 1 = j := by omega
      rw [e1] at h1
      by_cases hs : s (2 * (j / 2)) = 1
      · have : s j = 0 := by omega
        simp [hs, b2n, this]; omega
      · have : s j = 1 := by omega
        simp [hs, b2n, this]; omega
  have inn : ∀ (P : Nat → Prop), (P (ov o j / 2)) → P (if s j = 0 then laneN up (j / 2) else laneN lo (j / 2)) := by
    intro P h
    have i1 := inO_at S hj
    by_cases hs : s j = 0
    · rw [if_pos hs, hu _ hj2, ← hs, i1]; exact h
    · have : s j = 1 := by omega
      rw [if_neg hs, hl _ hj2, ← this, i1]; exact h
  unfold laneN
  simp only [side]
  have key : (if s j = 0 then laneN up (j / 2) else laneN lo (j / 2)) = ov o j / 2 := inn (fun z => z = ov o j / 2) rfl
  rw [key]
  have g2 : ((List.range (lanes e)).map fun a => decide (s (plc o (2 * a)) = 1)).getD (ov o j / 2) false = decide (s (plc o (2 * (ov o j / 2))) = 1) := by
    rw [List.getD_eq_getElem?_getD, List.getElem?_map, List.getElem?_range ha]
    rfl
  rw [g2]
  obtain ⟨p1, p2⟩ := plc_at O (x := 2 * (ov o j / 2)) (by omega)
  rcases Nat.mod_two_eq_zero_or_one (ov o j) with h | h
  · have e1 : 2 * (ov o j / 2) = ov o j := by omega
    have : plc o (2 * (ov o j / 2)) = j := O.inj p1 hj (by rw [p2, e1])
    rw [this]
    by_cases hs : s j = 1
    · simp [hs, b2n]; omega
    · have : s j = 0 := by omega
      simp [this, b2n]; omega
  · have e1 : ov o j = 2 * (ov o j / 2) + 1 := by omega
    have e2 : ov o j = al (ov o (plc o (2 * (ov o j / 2)))) := by rw [p2, al_two]; exact e1
    have h3 := S.b _ _ p1 hj e2
    by_cases hs : s j = 1
    · have : s (plc o (2 * (ov o j / 2))) = 0 := by omega
      simp [hs, b2n, this]; omega
    · have h4 : s j = 0 := by omega
      have : s (plc o (2 * (ov o j / 2))) = 1 := by omega
      simp [h4, b2n, this]; omega
end BW

namespace BW
open PySem PySem.Spec PyProof.Rows L2
open scoped BW.Ev
/-! BwN5: nets for orders, by the program. -/
/-- 414: is_order -/
def bd_414 : Sms := (.cons (.ite (.or (.cons (.not (.isi (.var 0) [.tuple] true)) (.cons (.not (.blt .all (.comp (.and (.cons (.isi (.var 1) [.int] true) (.cons (.not (.isi (.var 1) [.bool] true)) .nil))) (.var 1) (.seq (.var 0)) .nil [1]))) .nil))) (.cons (.ret (.bl false)) .nil) .nil []) (.cons (.ret (.and (.cons (.cmp .mem (.blt .len (.var 0)) (.glob 3)) (.cons (.cmp .eq (.blt .sorted (.var 0)) (.lrng (.blt .len (.var 0)))) .nil)))) .nil))
def m_414 : MDef := ⟨1, 2, 0, bd_414⟩
class C_414 (T : Tab) : Prop where
  h_414 : T 414 = some m_414
theorem q_414 {T : Tab} {G : Nat → D} {n : Nat} [C_414 T] {a0 : R} : callN T G (n + 1) 414 [a0] = bnd (evSs (callN T G n) G (ownT T) bd_414 [a0, .un]) (endOf 1) := by
  rw [callN_at (C_414.h_414 (T := T))]
  rfl
@[scoped simp] theorem Ev.own_414 {T : Tab} [C_414 T] : ownT T 414 = 0 := ownT_at (C_414.h_414 (T := T))
/-- 415: sides_for -/
def bd_415 : Sms := (.cons (.asg 1 1 (.bin .mul (.lst (.cons (.int 0) .nil)) (.blt .len (.var 0)))) (.cons (.for_ (.tup (.cons (.var 2) (.cons (.var 3) .nil))) (.enum (.var 0)) (.cons (.seti 1 [] (.var 3) (.var 2)) .nil) [2, 3]) (.cons (.asg 1 4 (.bin .mul (.lst (.cons .non .nil)) (.blt .len (.var 0)))) (.cons (.for_ (.var 5) (.rng (.blt .len (.var 0))) (.cons (.asg 0 2 (.var 5)) (.cons (.whl (.cmp .isN (.idx (.var 4) (.var 2)) .non) (.cons (.seti 4 [] (.var 2) (.int 0)) (.cons (.asg 0 6 (.bin .bxor (.var 2) (.int 1))) (.cons (.seti 4 [] (.var 6) (.int 1)) (.cons (.asg 0 2 (.idx (.var 1) (.bin .bxor (.idx (.var 0) (.var 6)) (.int 1)))) .nil)))) [6]) .nil)) [2, 5, 6]) (.cons (.ret (.var 4)) .nil)))))
def m_415 : MDef := ⟨1, 7, 0, bd_415⟩
class C_415 (T : Tab) : Prop where
  h_415 : T 415 = some m_415
theorem q_415 {T : Tab} {G : Nat → D} {n : Nat} [C_415 T] {a0 : R} : callN T G (n + 1) 415 [a0] = bnd (evSs (callN T G n) G (ownT T) bd_415 [a0, .un, .un, .un, .un, .un, .un]) (endOf 1) := by
  rw [callN_at (C_415.h_415 (T := T))]
  rfl
@[scoped simp] theorem Ev.own_415 {T : Tab} [C_415 T] : ownT T 415 = 0 := ownT_at (C_415.h_415 (T := T))
/-- 416: inner_order -/
def bd_416 : Sms := (.cons (.asg 1 3 (.bin .mul (.lst (.cons .non .nil)) (.bin .fdiv (.blt .len (.var 0)) (.int 2)))) (.cons (.for_ (.tup (.cons (.var 4) (.cons (.var 5) .nil))) (.enum (.var 0)) (.cons (.ite (.cmp .eq (.idx (.var 1) (.var 4)) (.var 2)) (.cons (.seti 3 [] (.bin .fdiv (.var 4) (.int 2)) (.bin .fdiv (.var 5) (.int 2))) .nil) .nil []) .nil) [4, 5]) (.cons (.ret (.blt .tuple (.var 3))) .nil)))
def m_416 : MDef := ⟨3, 6, 0, bd_416⟩
class C_416 (T : Tab) : Prop where
  h_416 : T 416 = some m_416
theorem q_416 {T : Tab} {G : Nat → D} {n : Nat} [C_416 T] {a0 a1 a2 : R} : callN T G (n + 1) 416 [a0, a1, a2] = bnd (evSs (callN T G n) G (ownT T) bd_416 [a0, a1, a2, .un, .un, .un]) (endOf 3) := by
  rw [callN_at (C_416.h_416 (T := T))]
  rfl
@[scoped simp] theorem Ev.own_416 {T : Tab} [C_416 T] : ownT T 416 = 0 := ownT_at (C_416.h_416 (T := T))
/-- 417: net_by -/
def bd_417 : Sms := (.cons (.ite (.cmp .eq (.blt .len (.var 0)) (.int 2)) (.cons (.ret (.idx (.var 0) (.int 0))) .nil) .nil []) (.cons (.asg 0 1 (.call 415 (.cons (.var 0) .nil))) (.cons (.asg 0 3 (.blt .tuple (.comp (.idx (.var 1) (.bin .mul (.int 2) (.var 2))) (.var 2) (.rng (.bin .fdiv (.blt .len (.var 0)) (.int 2))) .nil [2]))) (.cons (.asg 1 4 (.bin .mul (.lst (.cons (.int 0) .nil)) (.bin .fdiv (.blt .len (.var 0)) (.int 2)))) (.cons (.for_ (.tup (.cons (.var 5) (.cons (.var 6) .nil))) (.enum (.var 0)) (.cons (.ite (.cmp .eq (.bin .mod (.var 6) (.int 2)) (.int 0)) (.cons (.seti 4 [] (.bin .fdiv (.var 6) (.int 2)) (.idx (.var 1) (.var 5))) .nil) .nil []) .nil) [5, 6]) (.cons (.asg 0 7 (.call 417 (.cons (.call 416 (.cons (.var 0) (.cons (.var 1) (.cons (.int 0) .nil)))) .nil))) (.cons (.asg 0 8 (.call 417 (.cons (.call 416 (.cons (.var 0) (.cons (.var 1) (.cons (.int 1) .nil)))) .nil))) (.cons (.ret (.tup (.cons (.var 3) (.cons (.var 7) (.cons (.var 8) (.cons (.blt .tuple (.var 4)) .nil)))))) .nil))))))))
def m_417 : MDef := ⟨1, 9, 0, bd_417⟩
class C_417 (T : Tab) : Prop extends C_415 T, C_416 T where
  h_417 : T 417 = some m_417
theorem q_417 {T : Tab} {G : Nat → D} {n : Nat} [C_417 T] {a0 : R} : callN T G (n + 1) 417 [a0] = bnd (evSs (callN T G n) G (ownT T) bd_417 [a0, .un, .un, .un, .un, .un, .un, .un, .un]) (endOf 1) := by
  rw [callN_at (C_417.h_417 (T := T))]
  rfl
@[scoped simp] theorem Ev.own_417 {T : Tab} [C_417 T] : ownT T 417 = 0 := ownT_at (C_417.h_417 (T := T))
/-- 418: net_for -/
def bd_418 : Sms := (.cons (.ite (.not (.call 414 (.cons (.var 0) .nil))) (.cons (.rse "NoOrder") .nil) .nil []) (.cons (.ret (.call 417 (.cons (.var 0) .nil))) .nil))
def m_418 : MDef := ⟨1, 1, 0, bd_418⟩
class C_418 (T : Tab) : Prop extends C_414 T, C_417 T, CF T where
  h_418 : T 418 = some m_418
theorem q_418 {T : Tab} {G : Nat → D} {n : Nat} [C_418 T] {a0 : R} : callN T G (n + 1) 418 [a0] = bnd (evSs (callN T G n) G (ownT T) bd_418 [a0]) (endOf 1) := by
  rw [callN_at (C_418.h_418 (T := T))]
  rfl
theorem rq_418 {T : Tab} {G : Nat → D} {n : Nat} [C_418 T] {a0 : R} : callN T G (n + 1) (418 + rsK) [a0] = bnd (rsSs (callN T G n) G (ownT T) bd_418 [a0]) fun p => some (.str p.1, []) := by
  rw [callR_at (C_418.h_418 (T := T))]
  rfl
@[scoped simp] theorem Ev.own_418 {T : Tab} [C_418 T] : ownT T 418 = 0 := ownT_at (C_418.h_418 (T := T))
theorem rep_eq {a : D} {j : Int} (h0 : 0 ≤ j) (h1 : j ≤ 16777216) : binD .mul (.list [a]) (.int j) = some (.list (List.replicate j.toNat a)) := by
  have h : fits ([a].length * j.toNat) = true ∧ -(2 ^ 63) ≤ j ∧ j < 2 ^ 63 := ⟨fits_of (by simp; omega), by omega, by omega⟩
  refine (if_pos h).trans ?_
  congr 2
  generalize j.toNat = m
  induction m with
  | zero => rfl
  | succ m ih => rw [List.replicate_succ, List.flatten_cons, ih, List.replicate_succ]; rfl
def nD (k : Nat) : D := .int (k : Nat)
def sE : Option Nat → D
  | none => .none
  | some v => .int (v : Nat)
def sL (n : Nat) (s : Nat → Option Nat) : List D := (List.range n).map fun x => sE (s x)
theorem sL_len {n : Nat} {s : Nat → Option Nat} : (sL n s).length = n := by simp [sL]
theorem sL_get {n x : Nat} {s : Nat → Option Nat} (h : x < n) : ixD (sL n s) (x : Int) = some (sE (s x)) := by
  rw [ixD_at (by rw [sL_len]; exact h)]
  unfold sL
  rw [List.getElem?_map, List.getElem?_range h]
  rfl
theorem sL_set {n k : Nat} {s : Nat → Option Nat} {v : Nat} (h : k < n) : (sL n s).set k (.int (v : Nat)) = sL n fun x => if x = k then some v else s x := by
  apply List.ext_getElem?
  intro j
  rw [List.getElem?_set]
  unfold sL
  rcases Nat.lt_or_ge j n with hj | hj
  · rw [List.getElem?_map, List.getElem?_map, List.getElem?_range hj]
    simp only [Option.map_some, List.length_map, List.length_range]
    by_cases e : k = j
    · subst e
      rw [if_pos rfl, if_pos h, if_pos rfl]
      rfl
    · rw [if_neg e, if_neg (fun z => e z.symm)]
  · rw [List.getElem?_eq_none (by simpa using hj), List.getElem?_eq_none (by simpa using hj)]
    by_cases e : k = j
    · rw [if_pos e, if_neg (by simp; omega)]
    · rw [if_neg e]
theorem sL_two {n k : Nat} {s : Nat → Option Nat} (h : k < n) (h2 : al k < n) : ((sL n s).set k (.int 0)).set (al k) (.int 1) = sL n (put2 k s) := by
  have e1 := sL_set (s := s) (v := 0) h
  have e2 := sL_set (s := fun x => if x = k then some 0 else s x) (v := 1) h2
  rw [show (PyData.int ((0 : Nat) : Int)) = .int 0 from rfl] at e1
  rw [show (PyData.int ((1 : Nat) : Int)) = .int 1 from rfl] at e2
  rw [e1, e2]
  rfl
section
variable {T : Tab} {G : Nat → D} {m : Nat}
theorem side_W [C_415 T] {n : Nat} {o : List Nat} {Q : D × List R → Prop} (hn : n % 2 = 0) (h1 : n ≤ 1000) (O : Ord n o)
    (k : ∀ s : Nat → Nat, (∀ x, x < n → s x + s (al x) = 1) → (∀ x y, x < n → y < n → ov o y = al (ov o x) → s x + s y = 1) → Q (.list ((List.range n).map fun x => nD (s x)), [.un])) : W (callN T G (m + 1) 415 [.val (.tuple (o.map nD))]) Q := by
  have hl : ((o.map nD).length : Int) = n := by rw [List.length_map, O.len]
  have hr : rngOk (n : Int) = true := rngOk_of (by omega) (by omega)
  rw [q_415]
  simp [bd_415, O.len, rep_eq (a := .int 0) (show (0 : Int) ≤ (n : Int) by omega) (by omega), rep_eq (a := .none) (show (0 : Int) ≤ (n : Int) by omega) (by omega), enumD_map]
  refine W_forM (fun p : Nat × Nat => PyData.tuple [.int (p.2 : Nat), nD p.1]) (fun l ρ => ∃ t A, l = (o.drop t).zipIdx t ∧ t ≤ n ∧ ρ = [.val (.tuple (o.map nD)), .own 1 (.list (A.map nD)), .un, .un, .un, .un, .un] ∧ A.length = n ∧ ∀ j, j < t → A[ov o j]? = some j) rfl ⟨0, List.replicate n 0, rfl, by omega, by simp [nD], by simp, by intro j hj; omega⟩ ?_ ?_
  · rintro ⟨x, i⟩ l _ hx ⟨t, A, hl, ht, rfl, hA, hj⟩
    obtain ⟨rfl, tl, et, rfl, _⟩ := zip_shift hl
    rw [O.len] at tl
    have eo := O.at tl
    rw [et] at eo
    obtain ⟨e1, e2⟩ := eo
    have e1 := Option.some.inj e1
    have ix : ixN (A.map nD).length (x : Int) = some x := ixN_nat' (by rw [List.length_map, hA, e1]; exact e2)
    rw [List.length_map] at ix
    simp [nD, ix]
    refine ⟨i + 1, rfl, by omega, A.set x i, by rw [List.map_set]; rfl, by simp [hA], fun j hj' => ?_⟩
    rw [List.getElem?_set]
    by_cases ej : j = i
    · subst ej
      rw [if_pos e1, if_pos (by rw [hA, e1]; exact e2)]
    · have ne : x ≠ ov o j := fun z => ej (O.inj (by omega) tl (z ▸ e1))
      rw [if_neg ne]
      exact hj j (by omega)
  · rintro _ ⟨t, A, hl, ht, rfl, hA, hj⟩
    have tn : t = n := by
      have := congrArg List.length hl
      simp [O.len] at this
      omega
    subst tn
    have P := bes_pairs hn O hj
    have ok := fun {k : Nat} (h : k < t) => bes_ok hn O hj h
    have e0 : List.replicate t PyData.none = sL t fun _ => none := by
      unfold sL
      rw [List.map_const', List.length_range]
      rfl
    simp [O.len, rep_eq (a := .none) (show (0 : Int) ≤ (t : Int) by omega) (by omega), hr, e0]
    refine W_forM (fun k : Nat => PyData.int k) (fun l ρ => ∃ j s, j ≤ t ∧ l = List.range' j (t - j) ∧ ρ = [.val (.tuple (o.map nD)), .own 1 (.list (A.map nD)), .un, .un, .own 1 (.list (sL t s)), .un, .un] ∧ Settled t (bes o A) s ∧ ∀ x, x < j → s x ≠ none) (xs := List.range t) upTo0_map ⟨0, fun _ => none, by omega, by simp [List.range_eq_range'], rfl, fun x _ hx => absurd rfl hx, fun x hx => by omega⟩ ?_ ?_
    · rintro b l _ hb ⟨j, s, hjt, hl, rfl, S, hs⟩
      simp at hb
      obtain ⟨q, hq⟩ : ∃ q, t - j = q + 1 := by
        cases e : t - j with
        | zero => rw [e] at hl; cases hl
        | succ q => exact ⟨q, rfl⟩
      rw [hq, List.range'_succ] at hl
      cases hl
      simp
      refine W.mono (W_whl (fun m ρ => ∃ s k, m = wait t s ∧ ρ = [.val (.tuple (o.map nD)), .own 1 (.list (A.map nD)), .val (.int (k : Nat)), .un, .own 1 (.list (sL t s)), .val (.int (b : Nat)), .un] ∧ (Going t (bes o A) b k s ∨ (Settled t (bes o A) s ∧ k = b ∧ s k ≠ none)) ∧ k < t ∧ ∀ x, x < b → s x ≠ none) (m := wait t s) (Q := fun r => ∃ s k, r = .nx [.val (.tuple (o.map nD)), .own 1 (.list (A.map nD)), .val (.int (k : Nat)), .un, .own 1 (.list (sL t s)), .val (.int (b : Nat)), .un] ∧ Settled t (bes o A) s ∧ ∀ x, x < b + 1 → s x ≠ none) ?_ ⟨s, b, rfl, rfl, ?_, hb, hs⟩ ?_) ?_
      · have : wait t s ≤ t := by
          have := List.length_filter_le (fun x => (s x).isNone) (List.range t)
          simp at this
          exact this
        unfold whlMax
        omega
      · by_cases h0 : s b = none
        · exact .inl (going_start hb S h0)
        · exact .inr ⟨S, rfl, h0⟩
      · rintro _ _ ⟨s, k, rfl, rfl, hg, kt, hx⟩
        simp [sL_get kt]
        cases hk : s k with
        | none =>
          have G := hg.elim id fun h => absurd hk h.2.2
          have akt := al_lt hn kt
          have o1 := O.at akt
          have k1 := ok akt
          refine .inl ⟨rfl, ?_⟩
          have x1 : ixN (sL t s).length (k : Int) = some k := ixN_nat' (by rw [sL_len]; exact kt)
          have x2 : ixN (sL t s).length ((al k : Nat) : Int) = some (al k) := ixN_nat' (by rw [sL_len]; exact akt)
          have x3 : ixD (o.map nD) ((al k : Nat) : Int) = some (.int (ov o (al k) : Nat)) := by
            rw [ixD_at (by rw [List.length_map, O.len]; exact akt), List.getElem?_map, o1.1]
            rfl
          have x4 : ixD (A.map nD) ((al (ov o (al k)) : Nat) : Int) = some (.int (bes o A (al k) : Nat)) := by
            rw [ixD_at (by rw [List.length_map, hA]; exact al_lt hn o1.2), List.getElem?_map, k1.1]
            rfl
          simp [x1, x2, x3, x4, bxor_al, sL_two kt akt]
          refine ⟨wait t (put2 k s), wait_step kt hk, put2 k s, rfl, bes o A (al k), ⟨rfl, rfl⟩, .inl (going_step hn P G hk), k1.2.1, fun x hxb => ?_⟩
          unfold put2
          split
          · simp
          · split
            · simp
            · exact hx x hxb
        | some v =>
          refine .inr ⟨rfl, s, ⟨⟨k, rfl⟩, rfl⟩, ?_⟩
          have hk' : s k ≠ none := by rw [hk]; simp
          have e2 : Settled t (bes o A) s ∧ s b ≠ none := hg.elim (fun G => going_end P G hk') fun h => ⟨h.1, h.2.1 ▸ hk'⟩
          refine ⟨e2.1, fun x hxb => ?_⟩
          rcases Nat.lt_succ_iff_lt_or_eq.mp hxb with h | rfl
          · exact hx x h
          · exact e2.2
      · rintro _ ⟨s, k, rfl, S, hs⟩
        simp
        exact ⟨b + 1, by omega, ⟨by omega, .inr rfl⟩, s, rfl, S, hs⟩
    · rintro _ ⟨j, s, hjt, hl, rfl, S, hs⟩
      have jt : j = t := by
        have := congrArg List.length hl
        simp at this
        omega
      subst jt
      have hv : ∀ x, x < j → s x = some ((s x).getD 0) := fun x hx => by
        cases e : s x with
        | none => exact absurd e (hs x hx)
        | some v => rfl
      simp
      have e1 : sL j s = (List.range j).map fun x => nD ((s x).getD 0) := by
        unfold sL
        refine List.map_congr_left fun x hx => ?_
        rw [hv x (List.mem_range.mp hx)]
        rfl
      rw [e1]
      refine k _ (fun x hx => ?_) fun x y hx hy e => ?_
      · have := (S x hx (hs x hx)).1
        rcases this with ⟨a, b⟩ | ⟨a, b⟩ <;> simp [a, b]
      · have k1 := ok hx
        have : y = bes o A x := O.inj hy k1.2.1 (by rw [e, k1.2.2])
        have h2 := (S x hx (hs x hx)).2
        rw [← this] at h2
        rcases h2 with ⟨a, b⟩ | ⟨a, b⟩ <;> simp [a, b]
theorem half_nat (i : Nat) : ∃ t : Nat, (i : Int) / 2 = (t : Int) ∧ t = i / 2 := ⟨i / 2, by omega, rfl⟩
theorem inner_ok [C_416 T] {M side : Nat} {o : List Nat} {s : Nat → Nat} (O : Ord (2 * M) o) (S : Sides M o s) (hs : side ≤ 1) (hM : M ≤ 500) :
    callN T G (m + 1) 416 [.val (.tuple (o.map nD)), .val (.list ((List.range (2 * M)).map fun x => nD (s x))), .val (.int (side : Nat))] = some (.tuple ((inO o s side M).map nD), [.un, .un, .un]) := by
  have e0 : List.replicate M PyData.none = sL M fun _ => none := by
    unfold sL
    rw [List.map_const', List.length_range]
    rfl
  refine W.eq ?_
  rw [q_416]
  simp [bd_416, O.len, rep_eq (a := .none) (show (0 : Int) ≤ (M : Int) by omega) (by omega), enumD_map, e0]
  refine W_forM (fun p : Nat × Nat => PyData.tuple [.int (p.2 : Nat), nD p.1]) (fun l ρ => ∃ i, l = (o.drop i).zipIdx i ∧ i ≤ 2 * M ∧ ρ = [.val (.tuple (o.map nD)), .val (.list ((List.range (2 * M)).map fun x => nD (s x))), .val (.int (side : Nat)), .own 1 (.list (sL M fun t => if pk s side t < i then some (ov o (pk s side t) / 2) else none)), .un, .un]) rfl ⟨0, rfl, by omega, by simp⟩ ?_ ?_
  · rintro ⟨x, i⟩ l _ hx ⟨i', hl, hi, rfl⟩
    obtain ⟨rfl, il, et, rfl, _⟩ := zip_shift hl
    rw [O.len] at il
    have e1 := (O.at il).1
    rw [et] at e1
    have e1 := Option.some.inj e1
    obtain ⟨t, ht, ht2⟩ := half_nat i
    obtain ⟨v, hv, hv2⟩ := half_nat x
    have tm : t < M := by omega
    have xs : ixD ((List.range (2 * M)).map fun x => nD (s x)) (i : Int) = some (.int (s i : Nat)) := by
      rw [ixD_at (by simpa using il), List.getElem?_map, List.getElem?_range il]
      rfl
    have x1 : ixN (sL M fun t => if pk s side t < i then some (ov o (pk s side t) / 2) else none).length (t : Int) = some t := ixN_nat' (by rw [sL_len]; exact tm)
    simp only [nD] at xs
    simp [xs, nD, ht, hv, x1]
    refine .cnd (fun h => ?_) fun h => ?_
    · have hsi : s i = side := by have := of_decide_eq_true h; omega
      simp [x1, ht, hv]
      refine ⟨i + 1, rfl, by omega, ?_⟩
      rw [sL_set tm]
      congr 1
      funext u
      have p1 := pk_half s side u
      have p2 := S.pk_eq il hsi
      by_cases hu : u = t
      · subst hu
        rw [if_pos rfl, ht2, p2, if_pos (by omega), hv2, e1]
      · have : ¬ pk s side u = i := fun z => hu (by omega)
        rw [if_neg hu]
        by_cases hp : pk s side u < i
        · rw [if_pos hp, if_pos (by omega)]
        · rw [if_neg hp, if_neg (by omega)]
    · have hsi : ¬ s i = side := by have := of_decide_eq_false h; omega
      simp
      refine ⟨i + 1, rfl, by omega, ?_⟩
      unfold sL
      refine List.map_congr_left fun u hu => ?_
      have hp := S.pk hs (List.mem_range.mp hu)
      have : ¬ pk s side u = i := fun z => hsi (by rw [← z]; exact hp)
      show sE (if pk s side u < i then some (ov o (pk s side u) / 2) else none) = sE (if pk s side u < i + 1 then some (ov o (pk s side u) / 2) else none)
      by_cases hp : pk s side u < i
      · rw [if_pos hp, if_pos (by omega)]
      · rw [if_neg hp, if_neg (by omega)]
  · rintro _ ⟨i, hl, hi, rfl⟩
    have hi : i = 2 * M := by
      have := congrArg List.length hl
      simp [O.len] at this
      omega
    subst hi
    simp
    unfold sL inO
    rw [List.map_map]
    refine List.map_congr_left fun u hu => ?_
    show sE (if pk s side u < 2 * M then some (ov o (pk s side u) / 2) else none) = _
    rw [if_pos (pk_lt (List.mem_range.mp hu))]
    rfl
theorem sw_nat {v : Nat} (h : v ≤ 1) : PyData.int (v : Nat) = swD (decide (v = 1)) := by
  rcases (show v = 0 ∨ v = 1 by omega) with rfl | rfl <;> rfl
theorem netby_W [C_417 T] : ∀ (e : Nat) {o : List Nat} {L : Nat} {Q : D × List R → Prop}, e ≤ 4 → Ord (lanes e) o → e + 3 ≤ L →
    (∀ nt, Net.Of e nt → (∀ j, j < lanes e → laneN nt j = ov o j) → Q (nt.enc, [.un])) → W (callN T G L 417 [.val (.tuple (o.map nD))]) Q := by
  intro e
  induction e with
  | zero =>
    intro o L Q _ O hL k
    obtain ⟨n, rfl⟩ : ∃ n, L = n + 3 := ⟨L - 3, by omega⟩
    have hl := O.len
    obtain ⟨a, b, rfl⟩ : ∃ a b, o = [a, b] := by
      rcases o with _ | ⟨a, _ | ⟨b, _ | ⟨c, o⟩⟩⟩ <;> simp [lanes] at hl
      exact ⟨a, b, rfl⟩
    have ha : a < 2 := O.lt a (by simp)
    have hb : b < 2 := O.lt b (by simp)
    have ne : a ≠ b := by
      have := O.nd
      simp at this
      exact this
    have es := sw_nat (show a ≤ 1 by omega)
    rw [q_417]
    simp [bd_417, nD, es]
    refine k (.sw (decide (a = 1))) trivial fun j hj => ?_
    have hj : j < 2 := hj
    unfold laneN
    rcases (show (a = 0 ∧ b = 1) ∨ (a = 1 ∧ b = 0) by omega) with ⟨rfl, rfl⟩ | ⟨rfl, rfl⟩ <;> rcases (show j = 0 ∨ j = 1 by omega) with rfl | rfl <;> rfl
  | succ e ih =>
    intro o L Q he O hL k
    obtain ⟨n, rfl⟩ : ∃ n, L = n + 1 := ⟨L - 1, by omega⟩
    obtain ⟨n', rfl⟩ : ∃ n', n = n' + 1 := ⟨n - 1, by omega⟩
    have hn : lanes (e + 1) = 2 * lanes e := rfl
    have ol := O.len
    have hlk := lanes_le e
    have h4 : 4 ^ e ≤ 4 ^ 3 := Nat.pow_le_pow_right (by decide) (by omega)
    have hM : lanes e ≤ 500 := by omega
    have hne : ¬ (2 * (lanes e : Int) = 2) := by have := lanes_ge e; omega
    have O' := O
    rw [hn] at O' ol
    have e0 : (o.length : Int) = ((2 * lanes e : Nat) : Int) := by rw [ol]
    have k0 := k
    rw [q_417]
    simp [bd_417, e0, hne]
    refine side_W (n := 2 * lanes e) (by omega) (by omega) O' fun s h1 h2 => ?_
    simp
    have S : Sides (lanes e) o s := ⟨h1, h2⟩
    have s1 : ∀ x, x < 2 * lanes e → s x ≤ 1 := fun x hx => by have := h1 x hx; omega
    have hr : rngOk (lanes e : Int) = true := rngOk_of (by omega) (by omega)
    have at2 : ∀ x : Nat, x < 2 * lanes e → ixD ((List.range (2 * lanes e)).map fun x => nD (s x)) (x : Int) = some (nD (s x)) := fun x hx => by
      rw [ixD_at (by simpa using hx), List.getElem?_map, List.getElem?_range hx]
      rfl
    simp [ol, hr]
    refine .of (comp_map' (fun t : Nat => PyData.int t) (fun t => swD (decide (s (2 * t) = 1))) upTo0_map fun t ht => ?_) ?_
    · have ht' : 2 * t < 2 * lanes e := by have := List.mem_range.mp ht; omega
      have a2 := at2 (2 * t) ht'
      have sm : sml (t : Int) := sml_of (by omega) (by omega)
      rw [show nD (s (2 * t)) = swD (decide (s (2 * t) = 1)) from sw_nat (s1 _ ht')] at a2
      push_cast at a2
      simp [a2, sm]
    simp [ol, rep_eq (a := .int 0) (show (0 : Int) ≤ (lanes e : Int) by omega) (by omega), enumD_map]
    have e1 : List.replicate (lanes e) (PyData.int 0) = sL (lanes e) fun _ => some 0 := by
      unfold sL
      rw [List.map_const', List.length_range]
      rfl
    rw [e1]
    refine W_forM (fun p : Nat × Nat => PyData.tuple [.int (p.2 : Nat), nD p.1]) (fun l ρ => ∃ i, l = (o.drop i).zipIdx i ∧ i ≤ 2 * lanes e ∧ ρ = [.val (.tuple (o.map nD)), .val (.list ((List.range (2 * lanes e)).map fun x => nD (s x))), .un, .val (.tuple ((List.range (lanes e)).map fun t => swD (decide (s (2 * t) = 1)))), .own 1 (.list (sL (lanes e) fun a => some (if plc o (2 * a) < i then s (plc o (2 * a)) else 0))), .un, .un, .un, .un]) rfl ⟨0, rfl, by omega, by simp⟩ ?_ ?_
    · rintro ⟨x, i⟩ l _ hx ⟨i', hl, hi, rfl⟩
      obtain ⟨rfl, il, et, rfl, _⟩ := zip_shift hl
      rw [ol] at il
      have ex := (O'.at il).1
      have xl := (O'.at il).2
      rw [et] at ex
      have ex := Option.some.inj ex
      rw [← ex] at xl
      obtain ⟨v, hv, hv2⟩ := half_nat x
      have vl : v < lanes e := by omega
      have xs := at2 i il
      simp only [nD] at xs
      have pl : ∀ a, a < lanes e → plc o (2 * a) < 2 * lanes e ∧ ov o (plc o (2 * a)) = 2 * a := fun a ha => plc_at O' (by omega)
      have x1 : ixN (sL (lanes e) fun a => some (if plc o (2 * a) < i then s (plc o (2 * a)) else 0)).length (v : Int) = some v := ixN_nat' (by rw [sL_len]; exact vl)
      have hmod : (x : Int) % 2 = ((x % 2 : Nat) : Int) := by omega
      simp [nD]
      refine .cnd (fun h => ?_) fun h => ?_
      · have h : x % 2 = 0 := by have := of_decide_eq_true h; omega
        simp [xs, hv, x1]
        refine ⟨i + 1, rfl, by omega, ?_⟩
        rw [sL_set vl]
        congr 1
        funext a
        by_cases ha : a = v
        · subst ha
          have h3 := pl a vl
          have : plc o (2 * a) = i := O'.inj h3.1 il (by rw [h3.2, ← ex]; omega)
          rw [if_pos rfl, this, if_pos (by omega)]
        · rw [if_neg ha]
          have : ¬ plc o (2 * a) = i := by
            by_cases hal : a < lanes e
            · intro z
              have h3 := (pl a hal).2
              rw [z, ← ex] at h3
              omega
            · intro z
              have hz : plc o (2 * a) = o.length := List.idxOf_eq_length fun hm => by have := O'.lt _ hm; omega
              omega
          by_cases hp : plc o (2 * a) < i
          · rw [if_pos hp, if_pos (by omega)]
          · rw [if_neg hp, if_neg (by omega)]
      · have h : x % 2 = 1 := by have := of_decide_eq_false h; omega
        simp
        refine ⟨i + 1, rfl, by omega, ?_⟩
        unfold sL
        refine List.map_congr_left fun a ha => ?_
        have h3 := (pl a (List.mem_range.mp ha)).2
        have : ¬ plc o (2 * a) = i := fun z => by
          rw [z, ← ex] at h3
          omega
        show sE (some (if plc o (2 * a) < i then s (plc o (2 * a)) else 0)) = sE (some (if plc o (2 * a) < i + 1 then s (plc o (2 * a)) else 0))
        by_cases hp : plc o (2 * a) < i
        · rw [if_pos hp, if_pos (by omega)]
        · rw [if_neg hp, if_neg (by omega)]
    · rintro _ ⟨i, hl, hi, rfl⟩
      have hi : i = 2 * lanes e := by
        have := congrArg List.length hl
        simp [ol] at this
        omega
      subst hi
      have i0 := inner_ok (T := T) (G := G) (m := n') (side := 0) O' S (by omega) hM
      have i1 := inner_ok (T := T) (G := G) (m := n') (side := 1) O' S (by omega) hM
      rw [show PyData.int ((0 : Nat) : Int) = .int 0 from rfl] at i0
      rw [show PyData.int ((1 : Nat) : Int) = .int 1 from rfl] at i1
      simp [i0]
      refine ih (by omega) (inO_ord O' S (by omega)) (by omega) fun up u1 u2 => ?_
      simp [i1]
      refine ih (by omega) (inO_ord O' S (by omega)) (by omega) fun lo v1 v2 => ?_
      simp
      have el : sL (lanes e) (fun a => some (if plc o (2 * a) < 2 * lanes e then s (plc o (2 * a)) else 0)) = ((List.range (lanes e)).map fun a => decide (s (plc o (2 * a)) = 1)).map swD := by
        unfold sL
        rw [List.map_map]
        refine List.map_congr_left fun a ha => ?_
        have h3 := (plc_at O' (x := 2 * a) (by have := List.mem_range.mp ha; omega)).1
        show sE (some (if plc o (2 * a) < 2 * lanes e then s (plc o (2 * a)) else 0)) = swD _
        rw [if_pos h3]
        exact sw_nat (s1 _ h3)
      rw [el]
      have := k0 (.big ((List.range (lanes e)).map fun t => decide (s (2 * t) = 1)) up lo ((List.range (lanes e)).map fun a => decide (s (plc o (2 * a)) = 1))) ⟨by simp, u1, v1, by simp⟩ fun j hj => lane_big O S u2 v2 hj
      simpa [Net.enc, swsD, List.map_map, Function.comp_def] using this
end
end BW

namespace BW
open PySem PySem.Spec PyProof.Rows L2
open scoped BW.Ev
/-! BwN6: nets for orders, asked for; drawn orders. -/
/-- 404: is_net -/
def bd_404 : Sms := (.cons (.ite (.cmp .eq (.var 1) (.int 2)) (.cons (.ret (.and (.cons (.isi (.var 0) [.int] true) (.cons (.not (.isi (.var 0) [.bool] true)) (.cons (.cmp .mem (.var 0) (.tup (.cons (.int 0) (.cons (.int 1) .nil)))) .nil))))) .nil) .nil []) (.cons (.ite (.or (.cons (.not (.isi (.var 0) [.tuple] true)) (.cons (.cmp .ne (.blt .len (.var 0)) (.int 4)) .nil))) (.cons (.ret (.bl false)) .nil) .nil []) (.cons (.for_ (.var 2) (.seq (.tup (.cons (.idx (.var 0) (.int 0)) (.cons (.idx (.var 0) (.int 3)) .nil)))) (.cons (.ite (.or (.cons (.not (.isi (.var 2) [.tuple] true)) (.cons (.cmp .ne (.blt .len (.var 2)) (.bin .fdiv (.var 1) (.int 2))) .nil))) (.cons (.ret (.bl false)) .nil) .nil []) (.cons (.ite (.not (.blt .all (.comp (.call 404 (.cons (.var 3) (.cons (.int 2) .nil))) (.var 3) (.seq (.var 2)) .nil [3]))) (.cons (.ret (.bl false)) .nil) .nil []) .nil)) [2]) (.cons (.ret (.and (.cons (.call 404 (.cons (.idx (.var 0) (.int 1)) (.cons (.bin .fdiv (.var 1) (.int 2)) .nil))) (.cons (.call 404 (.cons (.idx (.var 0) (.int 2)) (.cons (.bin .fdiv (.var 1) (.int 2)) .nil))) .nil)))) .nil))))
def m_404 : MDef := ⟨2, 4, 0, bd_404⟩
class C_404 (T : Tab) : Prop where
  h_404 : T 404 = some m_404
theorem q_404 {T : Tab} {G : Nat → D} {n : Nat} [C_404 T] {a0 a1 : R} : callN T G (n + 1) 404 [a0, a1] = bnd (evSs (callN T G n) G (ownT T) bd_404 [a0, a1, .un, .un]) (endOf 2) := by
  rw [callN_at (C_404.h_404 (T := T))]
  rfl
@[scoped simp] theorem Ev.own_404 {T : Tab} [C_404 T] : ownT T 404 = 0 := ownT_at (C_404.h_404 (T := T))
/-- 420: order -/
def bd_420 : Sms := (.cons (.par 2 3 (.lrng (.var 1)) (.lst .nil) 1 1) (.cons (.for_ (.var 4) (.rng (.var 1)) (.cons (.mut 3 [] .append (.cons (.pop 2 (.call 92 (.cons (.io 0) (.cons (.blt .len (.var 2)) .nil)))) .nil)) .nil) [4]) (.cons (.ret (.blt .tuple (.var 3))) .nil)))
def m_420 : MDef := ⟨2, 5, 0, bd_420⟩
class C_420 (T : Tab) : Prop extends C_92 T where
  h_420 : T 420 = some m_420
theorem q_420 {T : Tab} {G : Nat → D} {n : Nat} [C_420 T] {a0 a1 : R} : callN T G (n + 1) 420 [a0, a1] = bnd (evSs (callN T G n) G (ownT T) bd_420 [a0, a1, .un, .un, .un]) (endOf 2) := by
  rw [callN_at (C_420.h_420 (T := T))]
  rfl
@[scoped simp] theorem Ev.own_420 {T : Tab} [C_420 T] : ownT T 420 = 0 := ownT_at (C_420.h_420 (T := T))
section
variable {T : Tab} {G : Nat → D} {n : Nat}
theorem tupOr (m : Nat) (d : D) : (∃ l, d = .tuple l) ∨ (isTy .tuple d = false ∧ areSw m d = false) := by
  cases d with
  | tuple l => exact .inl ⟨l, rfl⟩
  | _ => exact .inr ⟨rfl, rfl⟩
/-- the law's own look at nets -/
theorem lnet_ok [C_404 T] : ∀ (k : Nat) {L : Nat} {d : D}, k + 2 ≤ L → callN T G L 404 [.val d, .val (.int (lanes k))] = some (.bool (isNet k d), [.un, .un]) := by
  have base : ∀ {n : Nat} {d : D}, callN T G (n + 1) 404 [.val d, .val (.int 2)] = some (.bool (isSw d), [.un, .un]) := by
    intro n d
    cases d with
    | int i =>
      refine W.eq ?_
      rw [q_404]
      simp [bd_404]
      simp [isSw]
      rw [Bool.eq_iff_iff]
      simp
      omega
    | none =>
      rw [q_404]
      simp [bd_404]
      simp [isSw]
    | bool b =>
      rw [q_404]
      simp [bd_404]
      simp [isSw]
    | str b =>
      rw [q_404]
      simp [bd_404]
      simp [isSw]
    | list b =>
      rw [q_404]
      simp [bd_404]
      simp [isSw]
    | tuple b =>
      rw [q_404]
      simp [bd_404]
      simp [isSw]
    | dict b =>
      rw [q_404]
      simp [bd_404]
      simp [isSw]
  intro k
  induction k with
  | zero =>
    intro L d hL
    obtain ⟨n, rfl⟩ : ∃ n, L = n + 1 := ⟨L - 1, by omega⟩
    exact base
  | succ k ih =>
    intro L d hL
    obtain ⟨n, rfl⟩ : ∃ n, L = n + 3 := ⟨L - 3, by omega⟩
    have ih' := fun x => ih (L := n + 2) (d := x) (by omega)
    refine W.eq ?_
    cases d with
    | tuple l =>
      by_cases h4 : l.length = 4
      · obtain ⟨a, b, c, e, rfl⟩ : ∃ a b c e, l = [a, b, c, e] := by
          rcases l with _ | ⟨a, _ | ⟨b, _ | ⟨c, _ | ⟨e, _ | ⟨f, l⟩⟩⟩⟩⟩ <;> simp at h4
          exact ⟨a, b, c, e, rfl⟩
        rw [q_404]
        simp [bd_404, ld_ne, ld_half]
        rcases tupOr (lanes k) a with ⟨la, rfl⟩ | ⟨ta, za⟩
        · simp [ld_half]
          by_cases ha : la.length = lanes k
          · simp [ha]
            refine .of (comp_map' (xs := la) (fun x : D => x) (fun x => .bool (isSw x)) (by simp) fun x hx => ?_) ?_
            · simp [base]
            simp [Ev.boolsOf_mapf]
            cases qa : la.all isSw
            · simp [isNet, areSw, ha, qa]
            · simp [qa]
              rcases tupOr (lanes k) e with ⟨le, rfl⟩ | ⟨te, ze⟩
              · simp [ld_half]
                by_cases he : le.length = lanes k
                · simp [he]
                  refine .of (comp_map' (xs := le) (fun x : D => x) (fun x => .bool (isSw x)) (by simp) fun x hx => ?_) ?_
                  · simp [base]
                  simp [Ev.boolsOf_mapf]
                  cases qe : le.all isSw
                  · simp [isNet, areSw, he, qe]
                  · simp [qe]
                    simp [isNet, areSw, ha, qa, he, qe, ld_half]
                    rw [ih']
                    simp
                    cases isNet k b
                    · simp
                    · simp [ld_half]
                      rw [ih']
                      simp
                      exact fun _ => ⟨⟨ha, List.all_eq_true.mp qa⟩, he, List.all_eq_true.mp qe⟩
                · have he' : ¬ (le.length : Int) = lanes k := by omega
                  simp [he', he, isNet, areSw]
              · simp [te, ze, isNet]
          · have ha' : ¬ (la.length : Int) = lanes k := by omega
            simp [ha', ha, isNet, areSw]
        · simp [ta, za, isNet]
      · have hz : isNet (k + 1) (.tuple l) = false := by
          rcases l with _ | ⟨a, _ | ⟨b, _ | ⟨c, _ | ⟨e, _ | ⟨f, l⟩⟩⟩⟩⟩ <;> first | rfl | (simp at h4)
        have h4' : ¬ (l.length : Int) = 4 := by omega
        rw [q_404]
        simp [bd_404, ld_ne, h4']
        simp [hz]
    | int i =>
      rw [q_404]
      simp [bd_404, ld_ne]
      simp [isNet]
    | none =>
      rw [q_404]
      simp [bd_404, ld_ne]
      simp [isNet]
    | bool b =>
      rw [q_404]
      simp [bd_404, ld_ne]
      simp [isNet]
    | str b =>
      rw [q_404]
      simp [bd_404, ld_ne]
      simp [isNet]
    | list b =>
      rw [q_404]
      simp [bd_404, ld_ne]
      simp [isNet]
    | dict b =>
      rw [q_404]
      simp [bd_404, ld_ne]
      simp [isNet]
end
theorem net_is : ∀ (k : Nat) (nt : Net), Net.Of k nt → isNet k nt.enc = true
  | 0, .sw b, _ => by cases b <;> rfl
  | 0, .big .., h => by cases h
  | k + 1, .sw b, h => by cases h
  | k + 1, .big f u l t, ⟨h1, h2, h3, h4⟩ => by
    have sw : ∀ l : List Bool, (l.map swD).all isSw = true := by
      intro l
      simp
      exact ⟨fun _ => rfl, fun _ => rfl⟩
    have a1 : areSw (lanes k) (swsD f) = true := by simp only [areSw, swsD, sw, List.length_map, h1]; simp
    have a2 : areSw (lanes k) (swsD t) = true := by simp only [areSw, swsD, sw, List.length_map, h4]; simp
    simp only [Net.enc, isNet, a1, a2, net_is k u h2, net_is k l h3]
    rfl
theorem str_of {d : D} {k N : Nat} (h : Shw d k N) (hk : k < 60 := by decide) (hN : N ≤ 16777216 := by decide) : ∃ x, bltD .str d = some (.str x) := by
  cases d with
  | str x => exact ⟨x, rfl⟩
  | _ => exact ⟨_, by rw [blt_strd (by intro x; simp), if_pos (h.ok hk hN)]⟩
theorem eq_refl_l {l : List D} {k : Nat} (h : Shp (.list l) k) (hk : k ≤ 64 := by decide) : eqD (.list l) (.list l) = some true := by
  have h0 := h.1
  simp only [PyData.canLay0] at h0
  rw [Ev.eq_ll, h.shaped hk, Bool.and_self, if_pos rfl, eqvAll_refl h0]
theorem shp_nL {l : List Nat} {k : Nat} : Shp (.list (l.map nD)) (k + 1) := shp_l fun x hx => by obtain ⟨_, _, rfl⟩ := List.mem_map.mp hx; exact shp_i
theorem shw_nT {l : List Nat} {k : Nat} (hl : l.length ≤ 16) (h : ∀ x ∈ l, x < 1000) : Shw (.tuple (l.map nD)) (k + 1) 1091 := shw_t (N := 66) (M := 16) (fun x hx => by
  obtain ⟨y, hy, rfl⟩ := List.mem_map.mp hx
  have := h y hy
  exact shw_i (by omega) (by omega)) (by simpa using hl)
theorem ord_perm {n : Nat} {o : List Nat} (O : Ord n o) : o.Perm (List.range n) :=
  (List.perm_ext_iff_of_nodup O.nd List.nodup_range).mpr fun x => ⟨fun h => List.mem_range.mpr (O.lt x h), fun h => O.mem (List.mem_range.mp h)⟩
theorem perm_ord {n : Nat} {o : List Nat} (h : o.Perm (List.range n)) : Ord n o :=
  ⟨by rw [h.length_eq, List.length_range], h.nodup_iff.mpr List.nodup_range, fun x hx => List.mem_range.mp (h.mem_iff.mp hx)⟩
theorem nL_int {l : List Nat} : l.map nD = (l.map fun x : Nat => (x : Int)).map PyData.int := by rw [List.map_map]; rfl
theorem srt_ord {n : Nat} {o : List Nat} (O : Ord n o) : bltD .sorted (.tuple (o.map nD)) = some (.list ((List.range n).map nD)) := by
  show (intsOf (o.map nD)).map (fun ns => PyData.list ((srtI ns).map .int)) = _
  rw [nL_int, Ev.intsOf_map]
  have pm : ((List.range n).map fun x : Nat => (x : Int)).Perm (o.map fun x : Nat => (x : Int)) := ((ord_perm O).map _).symm
  have pw : ((List.range n).map fun x : Nat => (x : Int)).Pairwise (· ≤ ·) := by
    rw [List.pairwise_map]
    exact List.pairwise_lt_range.imp fun {a b} h => by omega
  rw [Option.map_some, ← srtI_uniq pm pw, ← nL_int]
section
variable {T : Tab} {m : Nat}
theorem lanes_in {e : Nat} (he : e ≤ 3) : memD (.int (lanes e : Nat)) (G0 3) = some true := by
  rcases (show e = 0 ∨ e = 1 ∨ e = 2 ∨ e = 3 by omega) with rfl | rfl | rfl | rfl <;> simp [G0, lanes]
theorem lanes16 {e : Nat} (he : e ≤ 3) : lanes e ≤ 16 := by
  rcases (show e = 0 ∨ e = 1 ∨ e = 2 ∨ e = 3 by omega) with rfl | rfl | rfl | rfl <;> simp [lanes]
theorem isorder_ok [C_414 T] {e : Nat} {o : List Nat} (he : e ≤ 3) (O : Ord (lanes e) o) : callN T G0 (m + 1) 414 [.val (.tuple (o.map nD))] = some (.bool true, [.un]) := by
  have ol := O.len
  have hl := lanes16 he
  have hr : rngOk (lanes e : Int) = true := rngOk_of (by omega) (by omega)
  have hi := lanes_in he
  have hs := srt_ord O
  have eu : upTo 0 (lanes e) = (List.range (lanes e)).map nD := upTo0_map
  have eq := eq_refl_l (shp_nL (l := List.range (lanes e)) (k := 0))
  refine W.eq ?_
  rw [q_414]
  simp [bd_414]
  refine .of (comp_map' nD (fun _ => .bool true) rfl fun x hx => by simp [nD]) ?_
  simp [all_true, ol, hr, hi, hs, eu, -Ev.eq_ll, eq]
theorem netfor_W [C_418 T] {e : Nat} {o : List Nat} {Q : D × List R → Prop} (he : e ≤ 3) (O : Ord (lanes e) o)
    (k : ∀ nt, Net.Of e nt → (∀ j, j < lanes e → laneN nt j = ov o j) → Q (nt.enc, [.un])) : W (callN T G0 (m + 8) 418 [.val (.tuple (o.map nD))]) Q := by
  have h1 := isorder_ok (T := T) (m := m + 6) he O
  rw [q_418]
  simp [bd_418, h1]
  refine netby_W e (by omega) O (by omega) fun nt n1 n2 => ?_
  simp
  exact k nt n1 n2
theorem erase_nD : ∀ {R : List Nat} {i : Nat}, (R.map nD).eraseIdx i = (R.eraseIdx i).map nD
  | [], _ => rfl
  | _ :: _, 0 => rfl
  | x :: R, i + 1 => by
    rw [List.map_cons, List.eraseIdx_cons_succ, List.eraseIdx_cons_succ, List.map_cons, erase_nD]
/-- an order, drawn -/
theorem order_W [C_420 T] {G : Nat → D} {s : D} {b n : Nat} {Q : D × List R → Prop} (hn : n ≤ 16) (h : LSd s b) (hb : b < 900000)
    (k : ∀ o s', Ord n o → LSd s' (b + 16) → Q (.tuple (o.map nD), [.io 1 s', .un])) : W (callN T G (m + 3) 420 [.io 1 s, .val (.int (n : Nat))]) Q := by
  have hr : rngOk (n : Int) = true := rngOk_of (by omega) (by omega)
  have eu : upTo 0 n = (List.range n).map nD := upTo0_map
  rw [q_420]
  simp [bd_420, hr, eu]
  refine W_forM nD (fun l ρ => ∃ s' b' F R, ρ = [.io 1 s', .val (.int (n : Nat)), .own 1 (.list (R.map nD)), .own 1 (.list (F.map nD)), .un] ∧ LSd s' b' ∧ b' + l.length ≤ b + n ∧ R.length = l.length ∧ (F ++ R).Perm (List.range n)) rfl ⟨s, b, [], List.range n, rfl, h, by simp, by simp, List.Perm.refl _⟩ ?_ ?_
  · rintro x l _ hx ⟨s', b', F, R, rfl, h', hb', hR, pm⟩
    simp at hb' hR
    have hF : F.length ≤ 16 := by
      have := pm.length_eq
      simp at this
      omega
    simp [hR]
    refine pick_W h' (by omega) (by omega) (by omega) fun v s2 a2 b2 l2 => ?_
    simp
    have hv : v.toNat < R.length := by omega
    have e1 : ixN (R.map nD).length v = some v.toNat := ixN_int a2 (by rw [List.length_map]; omega)
    have e2 : ixD (R.map nD) v = some (nD R[v.toNat]) := by
      unfold ixD
      rw [e1]
      simp [List.getElem?_eq_getElem hv, bnd]
    rw [List.length_map] at e1
    simp [e1, e2, sizeOk_of (show F.length < 16777216 by omega)]
    refine ⟨s2, b' + 1, F ++ [R[v.toNat]], R.eraseIdx v.toNat, ⟨rfl, erase_nD, by simp⟩, l2, by omega, ?_, ?_⟩
    · rw [List.length_eraseIdx_of_lt hv]
      omega
    · refine List.Perm.trans ?_ pm
      rw [List.append_assoc]
      refine List.Perm.append_left F ?_
      rw [List.eraseIdx_eq_take_drop_succ]
      have := List.getElem_cons_drop hv
      conv => rhs; rw [← List.take_append_drop v.toNat R, ← this]
      show (R[v.toNat] :: (List.take v.toNat R ++ List.drop (v.toNat + 1) R)).Perm _
      exact List.perm_middle.symm
  · rintro _ ⟨s', b', F, R, rfl, h', hb', hR, pm⟩
    have hR0 : R = [] := List.length_eq_zero_iff.mp hR
    subst hR0
    simp at pm hb'
    simp
    exact k F s' (perm_ord pm) (h'.mono (by omega))
end
end BW

namespace BW
open PySem PySem.Spec PyProof.Rows L2
open scoped BW.Ev
/-! BwMt: methods evaluated. -/
namespace Ev
@[scoped simp] theorem rc_ix {l} : rcOk .index (.list l) = true := id rfl
@[scoped simp] theorem rc_ct {l} : rcOk .count (.list l) = true := id rfl
@[scoped simp] theorem rc_jn {l} : rcOk .join (.str l) = true := id rfl
@[scoped simp] theorem rc_sp {l} : rcOk .split (.str l) = true := id rfl
@[scoped simp] theorem rc_bl {l} : rcOk .bitlen (.int l) = true := id rfl
@[scoped simp] theorem mth_0 {m x} : mthD m x [] = mth0 m x := id rfl
@[scoped simp] theorem mth_1 {m x d} : mthD m x [d] = mth1 m x d := id rfl
@[scoped simp] theorem mth_bl {i} : mth0 .bitlen (.int i) = some (.int (Builtin.Int.intBits i)) := id rfl
@[scoped simp] theorem mth_ix {l d} : mth1 .index (.list l) d = indexD l d := id rfl
@[scoped simp] theorem mth_ct {l d} : mth1 .count (.list l) d = countD l d := id rfl
@[scoped simp] theorem mth_sp {a b} : mth1 .split (.str a) (.str b) = if b.length ≠ 0 ∧ a.length + 2 ≤ 16777216 then some (.list ((Txt.split a b).map .str)) else none := id rfl
@[scoped simp] theorem mth_jl {a l} : mth1 .join (.str a) (.list l) = joinD a l := id rfl
@[scoped simp] theorem mth_jt {a l} : mth1 .join (.str a) (.tuple l) = joinD a l := id rfl
@[scoped simp] theorem ct_int {l k} : countD l (.int k) = bnd (intsOf l) fun ns => some (.int (ns.count k)) := id rfl
@[scoped simp] theorem ct_bool {l b} : countD l (.bool b) = if (SeqAt.shaped (.list l) && SeqAt.shaped (.bool b)) = true then some (.int (l.countP fun w => PyData.eqv w (.bool b) : Nat)) else none := id rfl
end Ev
theorem intBits_le {m k : Nat} (h : m < 2 ^ k) : Builtin.Int.intBits (m : Int) ≤ k := by
  unfold Builtin.Int.intBits
  split
  · omega
  · rename_i h0
    simp at h0
    have : m.log2 < k := (Nat.log2_lt h0).mpr h
    simp
    omega
end BW

namespace BW
open PySem PySem.Spec PyProof.Rows L2
open scoped BW.Ev
/-! BwL: members, first places, equal lists: of numbers and pairs. -/
theorem ints_shaped {l : List Int} : SeqAt.shaped (.list (l.map PyData.int)) = true := (shp_ints (k := 0)).shaped
theorem shp_pairs {l : List (Int × Int)} {k : Nat} : Shp (.list (l.map pD)) (k + 2) := shp_l (fun d hd => by obtain ⟨p, _, rfl⟩ := List.mem_map.mp hd; exact shp_word)
theorem pairs_shaped {l : List (Int × Int)} : SeqAt.shaped (.list (l.map pD)) = true := (shp_pairs (k := 0)).shaped
theorem eqv_pD {p q : Int × Int} : PyData.eqv (pD p) (pD q) = decide (p = q) := by
  obtain ⟨a, b⟩ := p
  obtain ⟨c, d⟩ := q
  simp [pD]
theorem any_dec {α : Type} [DecidableEq α] {x : α} : ∀ {l : List α}, (l.any fun z => decide (z = x)) = decide (x ∈ l)
  | [] => by simp
  | y :: l => by
    rw [List.any_cons, any_dec]
    by_cases h : y = x
    · subst h; simp
    · have : x ≠ y := fun e => h e.symm
      simp [h, this]
theorem mem_ints {x : Int} {l : List Int} : memD (.int x) (.list (l.map PyData.int)) = some (decide (x ∈ l)) := by
  rw [Ev.mem_l, ints_shaped, (shp_i (i := x) (k := 0)).shaped, Bool.and_self, if_pos rfl, List.any_map]
  congr 1
  rw [Bool.eq_iff_iff]
  simp only [List.any_eq_true, Function.comp, Ev.eqv_ii, decide_eq_true_eq]
  exact ⟨fun ⟨z, h, e⟩ => e ▸ h, fun h => ⟨x, h, rfl⟩⟩
theorem mem_pairs {x : Int × Int} {l : List (Int × Int)} : memD (pD x) (.list (l.map pD)) = some (decide (x ∈ l)) := by
  rw [Ev.mem_l, pairs_shaped, (shp_word (p := x) (k := 0)).shaped, Bool.and_self, if_pos rfl, List.any_map]
  congr 1
  rw [Bool.eq_iff_iff]
  simp only [List.any_eq_true, Function.comp, eqv_pD, decide_eq_true_eq]
  exact ⟨fun ⟨z, h, e⟩ => e ▸ h, fun h => ⟨x, h, rfl⟩⟩
theorem find_dec {α : Type} [DecidableEq α] {x : α} : ∀ {l : List α}, l.findIdx (fun z => decide (z = x)) = l.idxOf x
  | [] => by simp
  | y :: l => by
    rw [List.findIdx_cons, List.idxOf_cons, find_dec]
    by_cases h : y = x
    · subst h; simp
    · have : (y == x) = false := by simpa using h
      simp [h, this]
theorem index_ints {x : Int} {l : List Int} (h : x ∈ l) : indexD (l.map PyData.int) (.int x) = some (.int (l.idxOf x : Nat)) := by
  have e : (l.map PyData.int).findIdx (fun z => PyData.eqv z (.int x)) = l.idxOf x := by
    rw [List.findIdx_map, ← find_dec]
    have : (fun z => PyData.eqv z (.int x)) ∘ PyData.int = fun z => decide (z = x) := funext fun z => Ev.eqv_ii
    rw [this]
  unfold indexD
  rw [ints_shaped, (shp_i (i := x) (k := 0)).shaped, Bool.and_self, if_pos rfl, e, List.length_map, if_pos (List.idxOf_lt_length_of_mem h)]
theorem eqvAll_ints : ∀ {l m : List Int}, PyData.eqvAll (l.map PyData.int) (m.map PyData.int) = decide (l = m)
  | [], [] => by simp
  | [], _ :: _ => by simp
  | _ :: _, [] => by simp
  | x :: l, y :: m => by
    simp only [List.map_cons, Ev.eqvA_c, Ev.eqv_ii, eqvAll_ints]
    by_cases h : x = y <;> simp [h]
theorem eqvAll_pairs : ∀ {l m : List (Int × Int)}, PyData.eqvAll (l.map pD) (m.map pD) = decide (l = m)
  | [], [] => by simp
  | [], _ :: _ => by simp
  | _ :: _, [] => by simp
  | x :: l, y :: m => by
    simp only [List.map_cons, Ev.eqvA_c, eqv_pD, eqvAll_pairs]
    by_cases h : x = y <;> simp [h]
theorem eq_ints {l m : List Int} : eqD (.list (l.map PyData.int)) (.list (m.map PyData.int)) = some (decide (l = m)) := by
  rw [Ev.eq_ll, ints_shaped, ints_shaped, Bool.and_self, if_pos rfl, eqvAll_ints]
theorem eq_pairs {l m : List (Int × Int)} : eqD (.list (l.map pD)) (.list (m.map pD)) = some (decide (l = m)) := by
  rw [Ev.eq_ll, pairs_shaped, pairs_shaped, Bool.and_self, if_pos rfl, eqvAll_pairs]
theorem eq_ints0 {l : List Int} : eqD (.list (l.map PyData.int)) (.list []) = some (decide (l = [])) := eq_ints (m := [])
theorem eq_pairs0 {l : List (Int × Int)} : eqD (.list (l.map pD)) (.list []) = some (decide (l = [])) := eq_pairs (m := [])
theorem cut_from {α : Type} {l : List α} {k : Nat} : cutD l (some ((k : Int) + 1)) none = l.drop (k + 1) := by
  rw [Ev.cut_eq, Ev.sIx_succ, Ev.sIx_n]
  rcases Nat.lt_or_ge (k + 1) l.length with h | h
  · rw [Nat.min_eq_left (by omega), List.take_of_length_le (by simp)]
  · rw [Nat.min_eq_right h, List.drop_eq_nil_of_le (Nat.le_refl _), List.drop_eq_nil_of_le h]
    simp
theorem cut_to {α : Type} {l : List α} {k : Nat} : cutD l none (some (k : Int)) = l.take k := by
  rw [Ev.cut_eq, Ev.sIx_nat, Ev.sIx_n]
  simp
theorem eq_mapI {α : Type} {f : α → Int} {l : List α} : eqD (.list (l.map fun x => PyData.int (f x))) (.list []) = some (decide (l = [])) := by
  show eqD (.list (l.map (PyData.int ∘ f))) _ = _
  rw [← List.map_map, eq_ints0]
  simp only [List.map_eq_nil_iff]
/-- what is left of a list, numbered -/
theorem drop_zip {α : Type} {l : List α} {k : Nat} {x : α × Nat} {r : List (α × Nat)} (h : x :: r = (l.drop k).zipIdx k) : x.2 = k ∧ l.drop k = x.1 :: l.drop (k + 1) ∧ r = (l.drop (k + 1)).zipIdx (k + 1) ∧ k < l.length := by
  cases e : l.drop k with
  | nil => rw [e] at h; cases h
  | cons y m =>
    rw [e, List.zipIdx_cons] at h
    have hl : k < l.length := by
      rcases Nat.lt_or_ge k l.length with h | h
      · exact h
      · rw [List.drop_eq_nil_of_le h] at e; cases e
    have em : l.drop (k + 1) = m := by
      rw [← List.drop_drop, e]; rfl
    cases h
    exact ⟨rfl, by rw [em], by rw [em], hl⟩
theorem drop_nilzip {α : Type} {l : List α} {k : Nat} (h : [] = (l.drop k).zipIdx k) : l.drop k = [] := by
  cases e : l.drop k with
  | nil => rfl
  | cons y m => rw [e, List.zipIdx_cons] at h; cases h
/-! ### unlike ones, sorted ones, places from a start on -/
theorem dcnt_nodup {α : Type} [DecidableEq α] : ∀ {l : List α}, dcnt l = l.length ↔ l.Nodup
  | [] => by simp [dcnt]
  | x :: r => by
    have h := dcnt_le r
    have ih := dcnt_nodup (l := r)
    unfold dcnt
    rw [List.nodup_cons, List.length_cons]
    split
    · rename_i hx
      simp [hx]
      omega
    · rename_i hx
      simp [hx]
      exact ih
theorem dcnt_lt {α : Type} [DecidableEq α] {l : List α} : dcnt l < l.length ↔ ¬ l.Nodup := by
  rw [← dcnt_nodup]
  have := dcnt_le l
  omega
theorem dcnt_map {α β : Type} [DecidableEq α] [DecidableEq β] {f : α → β} (hf : ∀ x y, f x = f y → x = y) : ∀ l : List α, dcnt (l.map f) = dcnt l
  | [] => rfl
  | x :: r => by
    have hm : f x ∈ r.map f ↔ x ∈ r := by
      rw [List.mem_map]
      exact ⟨fun ⟨y, hy, e⟩ => hf _ _ e ▸ hy, fun h => ⟨x, h, rfl⟩⟩
    rw [List.map_cons]
    unfold dcnt
    rw [dcnt_map hf r]
    simp only [hm]
theorem setlen_ints {ns : List Int} (h : ns.length < 4000) : setlenD (.list (ns.map PyData.int)) = some (.int (dcnt ns : Nat)) := by
  unfold setlenD
  simp only [Ev.intsOf_map, if_pos h]
theorem tints_pairs : ∀ ps : List (Int × Int), tintsOf (ps.map pD) = some (ps.map fun p => [p.1, p.2])
  | [] => rfl
  | p :: r => by
    rw [List.map_cons, tintsOf, tints_pairs r]
    rfl
theorem setlen_pairs {ps : List (Int × Int)} (h : ps.length < 64) : setlenD (.list (ps.map pD)) = some (.int (dcnt ps : Nat)) := by
  cases ps with
  | nil => rfl
  | cons p r =>
    have e0 : intsOf ((p :: r).map pD) = none := rfl
    unfold setlenD
    simp only [e0]
    rw [tints_pairs]
    simp only [Option.bind_some, List.length_map, if_pos h]
    rw [dcnt_map (f := fun p : Int × Int => [p.1, p.2]) (fun x y e => by simp at e; exact Prod.ext e.1 e.2)]
theorem index3_ints {x : Int} {k : Nat} {l : List Int} (h : x ∈ l.drop k) (hl : l.length ≤ 16777216) : index3L (.list (l.map PyData.int)) [.int x, .int (k : Int)] = some (.int ((k + (l.drop k).idxOf x : Nat) : Int)) := by
  show index3D _ _ _ = _
  unfold index3D
  simp only [Ev.intsOf_map, Int.toNat_natCast, Option.bind_some]
  rw [if_pos (by omega), if_pos ⟨h, hl⟩]
namespace Ev
@[scoped simp] theorem blt_sorted {l} : bltD .sorted (.list l) = bnd (intsOf l) fun ns => some (.list ((srtI ns).map .int)) := by
  show ((intsOf l).map fun ns => PyData.list ((srtI ns).map PyData.int)) = _
  cases intsOf l <;> rfl
end Ev
theorem srtI_perm {ns : List Int} : (srtI ns).Perm ns := List.mergeSort_perm _ _
theorem srtI_ris {ns : List Int} : (srtI ns).Pairwise (· ≤ ·) := by
  have := List.pairwise_mergeSort (le := fun a b : Int => decide (a ≤ b)) (fun a b c h1 h2 => by simp at *; omega) (fun a b => by simp; omega) ns
  exact this.imp fun h => by simpa using h
end BW

namespace BW
open PySem PySem.Spec PyProof.Rows L2
open scoped BW.Ev
/-! BwA6: things and their weights: what a text of them may be. -/
def Atm (c : Nat) : D → Prop
  | .int i => -(c : Int) ≤ i ∧ i ≤ c
  | .str w => PyData.strOk w = true ∧ (reprText w).length ≤ 66
  | .bool _ => True
  | .none => True
  | _ => False
def PLs (P : Nat → D → Prop) : Nat → List D → Prop
  | _, [] => True
  | N, x :: l => ∃ a b, P a x ∧ PLs P b l ∧ a + 2 + b ≤ N
def Pw (c : Nat) : Nat → Nat → D → Prop
  | 0, N, d => Atm c d ∧ 66 ≤ N
  | k + 1, N, d => (Atm c d ∧ 66 ≤ N) ∨ ∃ l M, (d = .tuple l ∨ d = .list l) ∧ PLs (Pw c k) M l ∧ M + 3 ≤ N
section
variable {P P' : Nat → D → Prop}
theorem PLs.mono (hp : ∀ a x, P a x → P' a x) : ∀ {l : List D} {N N' : Nat}, N ≤ N' → PLs P N l → PLs P' N' l
  | [], _, _, _, _ => trivial
  | _ :: _, _, _, h, ⟨a, b, h1, h2, h3⟩ => ⟨a, b, hp _ _ h1, h2.mono hp (Nat.le_refl _), by omega⟩
theorem PLs.le {l : List D} {N N' : Nat} (h : PLs P N l) (hN : N ≤ N') : PLs P N' l := h.mono (fun _ _ h => h) hN
theorem PLs.one {a : Nat} {x : D} (h : P a x) : PLs P (a + 2) [x] := ⟨a, 0, h, trivial, Nat.le_refl _⟩
theorem PLs.app : ∀ {l m : List D} {N M : Nat}, PLs P N l → PLs P M m → PLs P (N + M) (l ++ m)
  | [], _, _, _, _, h => h.le (by omega)
  | _ :: _, _, _, M, ⟨a, b, h1, h2, h3⟩, h => ⟨a, b + M, h1, h2.app h, by omega⟩
theorem PLs.take : ∀ {l : List D} {N i : Nat}, PLs P N l → PLs P N (l.take i)
  | _, _, 0, _ => trivial
  | [], _, _ + 1, _ => trivial
  | _ :: _, _, _ + 1, ⟨a, b, h1, h2, h3⟩ => ⟨a, b, h1, h2.take, h3⟩
theorem PLs.drop : ∀ {l : List D} {N i : Nat}, PLs P N l → PLs P N (l.drop i)
  | _, _, 0, h => h
  | [], _, _ + 1, _ => trivial
  | _ :: _, _, _ + 1, ⟨a, b, h1, h2, h3⟩ => (h2.drop).le (by omega)
theorem PLs.cut {l : List D} {N : Nat} {a b : Option Int} (h : PLs P N l) : PLs P N (cutD l a b) := by
  rw [Ev.cut_eq]
  exact h.drop.take
theorem PLs.rev : ∀ {l : List D} {N : Nat}, PLs P N l → PLs P N l.reverse
  | [], _, _ => trivial
  | x :: l, _, ⟨a, b, h1, h2, h3⟩ => by
    rw [List.reverse_cons]
    exact (h2.rev.app (PLs.one h1)).le (by omega)
theorem PLs.split : ∀ {l : List D} {N i : Nat} {x : D}, PLs P N l → l[i]? = some x → ∃ b1 a b2, PLs P b1 (l.take i) ∧ P a x ∧ PLs P b2 (l.drop (i + 1)) ∧ b1 + (a + 2) + b2 ≤ N
  | y :: l, N, 0, x, ⟨a, b, h1, h2, h3⟩, e => by
    cases e
    exact ⟨0, a, b, trivial, h1, h2, by omega⟩
  | y :: l, N, i + 1, x, ⟨a, b, h1, h2, h3⟩, e => by
    obtain ⟨b1, a', b2, g1, g2, g3, g4⟩ := h2.split (i := i) (x := x) (by simpa using e)
    exact ⟨a + 2 + b1, a', b2, ⟨a, b1, h1, g1, Nat.le_refl _⟩, g2, g3, by omega⟩
theorem PLs.len : ∀ {l : List D} {N : Nat}, PLs P N l → l.length ≤ N
  | [], _, _ => Nat.zero_le _
  | _ :: _, _, ⟨a, b, h1, h2, h3⟩ => by have := h2.len; rw [List.length_cons]; omega
end
theorem Atm.up {c c' : Nat} {d : D} (h : Atm c d) (hc : c ≤ c') : Atm c' d := by
  cases d <;> simp only [Atm] at h ⊢
  · omega
  · exact h
theorem Pw.atm {c : Nat} {d : D} (h : Atm c d) {N : Nat} (hN : 66 ≤ N) : ∀ k, Pw c k N d
  | 0 => ⟨h, hN⟩
  | _ + 1 => .inl ⟨h, hN⟩
theorem Pw.mono {c c' : Nat} (hc : c ≤ c') : ∀ {k k' N N' : Nat} {d : D}, k ≤ k' → N ≤ N' → Pw c k N d → Pw c' k' N' d
  | 0, k', N, N', d, _, hN, h => Pw.atm (h.1.up hc) (Nat.le_trans h.2 hN) k'
  | k + 1, 0, _, _, _, hk, _, _ => by omega
  | k + 1, k' + 1, N, N', d, hk, hN, h => by
    rcases h with ⟨h1, h2⟩ | ⟨l, M, e, h1, h2⟩
    · exact .inl ⟨h1.up hc, Nat.le_trans h2 hN⟩
    · exact .inr ⟨l, M, e, h1.mono (fun a x h => Pw.mono hc (by omega) (Nat.le_refl _) h) (Nat.le_refl _), by omega⟩
theorem Pw.t {c k M N : Nat} {l : List D} (h : PLs (Pw c k) M l) (hN : M + 3 ≤ N) : Pw c (k + 1) N (.tuple l) := .inr ⟨l, M, .inl rfl, h, hN⟩
theorem Pw.l {c k M N : Nat} {l : List D} (h : PLs (Pw c k) M l) (hN : M + 3 ≤ N) : Pw c (k + 1) N (.list l) := .inr ⟨l, M, .inr rfl, h, hN⟩
theorem Pw.tup {c k N : Nat} {l : List D} (h : Pw c (k + 1) N (.tuple l)) : ∃ M, PLs (Pw c k) M l ∧ M + 3 ≤ N := by
  rcases h with ⟨h, _⟩ | ⟨m, M, e, h1, h2⟩
  · exact h.elim
  · rcases e with e | e <;> cases e
    exact ⟨M, h1, h2⟩
theorem join_pl {c k : Nat} : ∀ {l : List D} {N : Nat}, PLs (fun a x => Shw x k a) N l → (Str.join ", " (PyData.shownAll l)).length ≤ N ∧ (∀ j (acc : Str), (textFrom j acc (PyData.shownAll l)).length ≤ acc.length + N)
  | [], _, _ => ⟨by show (0 : Nat) ≤ _; omega, fun j acc => by simp [PyData.shownAll, textFrom]⟩
  | x :: l, N, ⟨a, b, h1, h2, h3⟩ => by
    obtain ⟨i1, i2⟩ := join_pl (c := c) h2
    have hx := h1.e
    constructor
    · cases l with
      | nil =>
        simp only [PyData.shownAll]
        show x.shown.length ≤ N
        omega
      | cons y l =>
        simp only [PyData.shownAll] at i1 ⊢
        show (x.shown ++ ", " ++ Str.join ", " (y.shown :: PyData.shownAll l)).length ≤ _
        have e2 : ((", " : String) : Str).length = 2 := rfl
        rw [strLen_append, strLen_append, e2]
        omega
    · intro j acc
      simp only [PyData.shownAll]
      rw [textFrom]
      have e : (acc ++ (if j > 0 then ", " else "" : String) ++ x.shown).length = acc.length + (if j > 0 then 2 else 0) + x.shown.length := by
        rw [strLen_append, strLen_append]
        split <;> rfl
      have := i2 (j + 1) (acc ++ (if j > 0 then ", " else "" : String) ++ x.shown)
      rw [e] at this
      have h2 : (if j > 0 then 2 else 0) ≤ 2 := by split <;> omega
      omega
theorem pl_all {k : Nat} : ∀ {l : List D} {N : Nat}, PLs (fun a x => Shw x k a) N l → PyData.showableAll l = true ∧ PyData.hasDictAll l = false ∧ PyData.depthAll l ≤ k
  | [], _, _ => ⟨by simp only [PyData.showableAll], by simp only [PyData.hasDictAll], by simp only [PyData.depthAll]; omega⟩
  | x :: l, N, ⟨a, b, h1, h2, h3⟩ => by
    obtain ⟨i1, i2, i3⟩ := pl_all h2
    exact ⟨by simp only [PyData.showableAll, h1.a, i1]; rfl, by simp only [PyData.hasDictAll, h1.b, i2]; rfl, by simp only [PyData.depthAll]; have := h1.c; omega⟩
theorem shw_tl {l : List D} {k N : Nat} (h : PLs (fun a x => Shw x k a) N l) : Shw (.tuple l) (k + 1) (N + 3) ∧ Shw (.list l) (k + 1) (N + 3) := by
  obtain ⟨i1, i2, i3⟩ := pl_all h
  obtain ⟨j1, j2⟩ := join_pl (c := 0) h
  refine ⟨⟨by simp only [PyData.showable, i1], by simp only [PyData.hasDict, i2], by simp only [PyData.depth]; omega, ?_⟩, ⟨by simp only [PyData.showable, i1], by simp only [PyData.hasDict, i2], by simp only [PyData.depth]; omega, ?_⟩⟩
  · simp only [PyData.shown]
    unfold tupleText
    rw [strLen_append, strLen_append]
    have e1 : ("(" : Str).length = 1 := rfl
    rw [e1]
    split
    · have e2 : (((",)" : String) : Str)).length = 2 := rfl
      rw [e2]
      omega
    · have e2 : (((")" : String) : Str)).length = 1 := rfl
      rw [e2]
      omega
  · simp only [PyData.shown]
    have := j2 0 "["
    unfold listText
    rw [strLen_append]
    have e1 : ("[" : Str).length = 1 := rfl
    rw [e1] at this
    have e3 : ((("]" : String) : Str)).length = 1 := rfl
    omega
theorem atm_shw {c : Nat} {d : D} (hc : c < 2 ^ 63) (h : Atm c d) : Shp d 1 ∧ Shw d 1 66 := by
  cases d with
  | int i => exact ⟨shp_i, shw_i (by have := h.1; omega) (by have := h.2; omega)⟩
  | str w => exact ⟨⟨by simp only [PyData.canLay0]; exact h.1, by simp only [PyData.depth]; omega⟩, shw_s (by simpa using h.2)⟩
  | bool b => exact ⟨⟨by simp only [PyData.canLay0], by simp only [PyData.depth]; omega⟩, shw_b⟩
  | none => exact ⟨⟨by simp only [PyData.canLay0], by simp only [PyData.depth]; omega⟩, shw_n⟩
  | list l => exact h.elim
  | tuple l => exact h.elim
  | dict l => exact h.elim
theorem pl_shp {P : Nat → D → Prop} {k : Nat} (hp : ∀ a x, P a x → Shp x k) : ∀ {l : List D} {N : Nat}, PLs P N l → ∀ x ∈ l, Shp x k
  | y :: l, _, ⟨a, b, h1, h2, _⟩, x, hx => (List.mem_cons.mp hx).elim (fun e => e ▸ hp _ _ h1) (pl_shp hp h2 x)
theorem Pw.shw {c : Nat} (hc : c < 2 ^ 63) : ∀ {k N : Nat} {d : D}, Pw c k N d → Shp d (k + 1) ∧ Shw d (k + 1) N
  | 0, N, d, h => ⟨(atm_shw hc h.1).1, (atm_shw hc h.1).2.mono (Nat.le_refl _) h.2⟩
  | k + 1, N, d, h => by
    rcases h with ⟨h1, h2⟩ | ⟨l, M, e, h1, h2⟩
    · exact ⟨(atm_shw hc h1).1.mono (by omega), (atm_shw hc h1).2.mono (by omega) h2⟩
    · have sp := pl_shp (k := k + 1) (fun a x h => (Pw.shw hc (k := k) h).1) h1
      have sw := shw_tl (h1.mono (fun a x h => (Pw.shw hc (k := k) h).2) (Nat.le_refl _))
      rcases e with rfl | rfl
      · exact ⟨shp_t sp, sw.1.mono (Nat.le_refl _) h2⟩
      · exact ⟨shp_l sp, sw.2.mono (Nat.le_refl _) h2⟩
end BW

namespace BW
open PySem PySem.Spec PyProof.Rows L2
open scoped BW.Ev
-- val: law_ok ns
/-- 433: other_leaf -/
def bd_433 : Sms := (.cons (.asg 0 2 (.lst (.cons (.int 1) (.cons (.int 0) (.cons (.int 2) (.cons (.neg (.int 1)) (.cons (.bl true) (.cons (.bl false) (.cons .non (.cons (.str (("0" : PySem.Str))) (.cons (.tup .nil) (.cons (.tup (.cons (.int 0) .nil)) (.cons (.lst (.cons (.int 0) .nil)) (.cons (.tup (.cons (.int 0) (.cons (.int 1) .nil))) .nil)))))))))))))) (.cons (.asg 0 3 (.call 92 (.cons (.io 0) (.cons (.int 24) .nil)))) (.cons (.ite (.and (.cons (.cmp .ge (.var 3) (.int 12)) (.cons (.isi (.var 1) [.int] true) .nil))) (.cons (.ret (.bin .sub (.int 1) (.var 1))) .nil) .nil []) (.cons (.ret (.idx (.var 2) (.bin .mod (.var 3) (.int 12)))) .nil))))
def m_433 : MDef := ⟨2, 4, 0, bd_433⟩
class C_433 (T : Tab) : Prop extends C_92 T where
  h_433 : T 433 = some m_433
theorem q_433 {T : Tab} {G : Nat → D} {n : Nat} [C_433 T] {a0 a1 : R} : callN T G (n + 1) 433 [a0, a1] = bnd (evSs (callN T G n) G (ownT T) bd_433 [a0, a1, .un, .un]) (endOf 2) := by
  rw [callN_at (C_433.h_433 (T := T))]
  rfl
@[scoped simp] theorem Ev.own_433 {T : Tab} [C_433 T] : ownT T 433 = 0 := ownT_at (C_433.h_433 (T := T))
/-- 434: other_row -/
def bd_434 : Sms := (.cons (.par 2 3 (.call 92 (.cons (.io 0) (.cons (.int 7) .nil))) (.call 92 (.cons (.io 0) (.cons (.bin .add (.blt .len (.var 1)) (.int 1)) .nil))) 0 0) (.cons (.asg 0 4 (.idx (.lst (.cons (.int 0) (.cons (.int 1) (.cons (.tup (.cons (.int 0) .nil)) (.cons (.tup (.cons (.int 0) (.cons (.int 0) .nil))) (.cons .non (.cons (.tup (.cons (.tup (.cons (.int 0) .nil)) (.cons (.int 0) (.cons (.int 0) (.cons (.tup (.cons (.int 0) .nil)) .nil))))) (.cons (.str (("1" : PySem.Str))) .nil)))))))) (.call 92 (.cons (.io 0) (.cons (.int 7) .nil))))) (.cons (.ite (.cmp .eq (.var 2) (.int 0)) (.cons (.ret (.bin .add (.slc (.var 1) .nil (.cons (.var 3) .nil)) (.slc (.var 1) (.cons (.bin .add (.var 3) (.int 1)) .nil) .nil))) .nil) .nil []) (.cons (.ite (.cmp .eq (.var 2) (.int 1)) (.cons (.ret (.bin .add (.bin .add (.slc (.var 1) .nil (.cons (.var 3) .nil)) (.slc (.var 1) (.cons (.var 3) .nil) (.cons (.bin .add (.var 3) (.int 1)) .nil))) (.slc (.var 1) (.cons (.var 3) .nil) .nil))) .nil) .nil []) (.cons (.ite (.cmp .lt (.var 2) (.int 4)) (.cons (.ret (.bin .add (.bin .add (.slc (.var 1) .nil (.cons (.var 3) .nil)) (.rev (.slc (.var 1) (.cons (.var 3) .nil) (.cons (.bin .add (.var 3) (.int 2)) .nil)))) (.slc (.var 1) (.cons (.bin .add (.var 3) (.int 2)) .nil) .nil))) .nil) .nil []) (.cons (.ite (.cmp .eq (.var 2) (.int 4)) (.cons (.ret (.blt .list (.var 1))) .nil) .nil []) (.cons (.ret (.bin .add (.bin .add (.slc (.var 1) .nil (.cons (.var 3) .nil)) (.tup (.cons (.var 4) .nil))) (.slc (.var 1) (.cons (.bin .sub (.bin .add (.var 3) (.var 2)) (.int 5)) .nil) .nil))) .nil)))))))
def m_434 : MDef := ⟨2, 5, 0, bd_434⟩
class C_434 (T : Tab) : Prop extends C_92 T where
  h_434 : T 434 = some m_434
theorem q_434 {T : Tab} {G : Nat → D} {n : Nat} [C_434 T] {a0 a1 : R} : callN T G (n + 1) 434 [a0, a1] = bnd (evSs (callN T G n) G (ownT T) bd_434 [a0, a1, .un, .un, .un]) (endOf 2) := by
  rw [callN_at (C_434.h_434 (T := T))]
  rfl
@[scoped simp] theorem Ev.own_434 {T : Tab} [C_434 T] : ownT T 434 = 0 := ownT_at (C_434.h_434 (T := T))
/-- 435: spoilt -/
def bd_435 : Sms := (.cons (.ite (.not (.isi (.var 1) [.tuple] true)) (.cons (.ret (.call 433 (.cons (.io 0) (.cons (.var 1) .nil)))) .nil) .nil []) (.cons (.ite (.or (.cons (.cmp .eq (.var 1) (.tup .nil)) (.cons (.cmp .eq (.var 2) (.int 0)) (.cons (.cmp .eq (.call 92 (.cons (.io 0) (.cons (.int 7) .nil))) (.int 0)) .nil)))) (.cons (.ret (.call 434 (.cons (.io 0) (.cons (.var 1) .nil)))) .nil) .nil []) (.cons (.asg 0 3 (.call 92 (.cons (.io 0) (.cons (.blt .len (.var 1)) .nil)))) (.cons (.ret (.bin .add (.bin .add (.slc (.var 1) .nil (.cons (.var 3) .nil)) (.tup (.cons (.call 435 (.cons (.io 0) (.cons (.idx (.var 1) (.var 3)) (.cons (.bin .sub (.var 2) (.int 1)) .nil)))) .nil))) (.slc (.var 1) (.cons (.bin .add (.var 3) (.int 1)) .nil) .nil))) .nil))))
def m_435 : MDef := ⟨3, 4, 0, bd_435⟩
class C_435 (T : Tab) : Prop extends C_92 T, C_433 T, C_434 T where
  h_435 : T 435 = some m_435
theorem q_435 {T : Tab} {G : Nat → D} {n : Nat} [C_435 T] {a0 a1 a2 : R} : callN T G (n + 1) 435 [a0, a1, a2] = bnd (evSs (callN T G n) G (ownT T) bd_435 [a0, a1, a2, .un]) (endOf 3) := by
  rw [callN_at (C_435.h_435 (T := T))]
  rfl
@[scoped simp] theorem Ev.own_435 {T : Tab} [C_435 T] : ownT T 435 = 0 := ownT_at (C_435.h_435 (T := T))
/-- 436: right -/
def bd_436 : Sms := (.cons (.par 2 3 (.blt .str (.var 0)) (.call 402 (.cons (.var 0) (.cons (.var 1) .nil))) 0 0) (.cons (.ite (.or (.cons (.not (.isi (.var 3) [.bool] true)) (.cons (.cmp .ne (.var 3) (.call 404 (.cons (.var 0) (.cons (.var 1) .nil)))) (.cons (.cmp .ne (.blt .str (.var 0)) (.var 2)) .nil)))) (.cons (.ret (.bl false)) .nil) .nil []) (.cons (.ite (.var 3) (.cons (.asg 0 5 (.comp (.bin .mul (.int 3) (.var 4)) (.var 4) (.rng (.var 1)) .nil [4])) (.cons (.asg 0 6 (.comp (.call 411 (.cons (.var 0) (.cons (.var 4) .nil))) (.var 4) (.rng (.var 1)) .nil [4])) (.cons (.ite (.not (.call 93 (.cons (.call 409 (.cons (.var 0) (.cons (.var 5) .nil))) (.cons (.comp (.idx (.var 5) (.mth .index (.var 6) (.cons (.var 7) .nil))) (.var 7) (.rng (.var 1)) .nil [7]) .nil)))) (.cons (.ret (.bl false)) .nil) .nil []) (.cons (.ret (.call 93 (.cons (.call 410 (.cons (.var 0) (.cons (.call 409 (.cons (.var 0) (.cons (.var 5) .nil))) .nil))) (.cons (.var 5) .nil)))) .nil)))) .nil [5, 6]) (.cons (.ret (.bl true)) .nil))))
def m_436 : MDef := ⟨2, 8, 0, bd_436⟩
class C_436 (T : Tab) : Prop extends C_93 T, C_402 T, C_404 T, C_409 T, C_410 T, C_411 T where
  h_436 : T 436 = some m_436
theorem q_436 {T : Tab} {G : Nat → D} {n : Nat} [C_436 T] {a0 a1 : R} : callN T G (n + 1) 436 [a0, a1] = bnd (evSs (callN T G n) G (ownT T) bd_436 [a0, a1, .un, .un, .un, .un, .un, .un]) (endOf 2) := by
  rw [callN_at (C_436.h_436 (T := T))]
  rfl
@[scoped simp] theorem Ev.own_436 {T : Tab} [C_436 T] : ownT T 436 = 0 := ownT_at (C_436.h_436 (T := T))
/-- 437: law -/
def bd_437 : Sms := (.cons (.for_ (.var 1) (.rng (.bin .add (.int 1) (.blt2 .min (.int 6) (.slen 0)))) (.cons (.asg 1 2 (.call 91 (.cons (.sarg 0) (.cons (.var 1) .nil)))) (.cons (.asg 0 3 (.idx (.lst (.cons (.int 2) (.cons (.int 4) (.cons (.int 8) (.cons (.int 16) .nil))))) (.call 92 (.cons (.io 2) (.cons (.int 4) .nil))))) (.cons (.asg 0 4 (.call 418 (.cons (.call 420 (.cons (.io 2) (.cons (.var 3) .nil))) .nil))) (.cons (.ite (.cmp .eq (.call 92 (.cons (.io 2) (.cons (.int 2) .nil))) (.int 0)) (.cons (.asg 0 4 (.call 403 (.cons (.io 2) (.cons (.var 3) .nil)))) .nil) .nil []) (.cons (.ite (.not (.call 436 (.cons (.var 4) (.cons (.var 3) .nil)))) (.cons (.ret (.bl false)) .nil) .nil []) (.cons (.for_ (.var 5) (.rng (.int 10)) (.cons (.asg 0 6 (.var 4)) (.cons (.for_ (.var 7) (.rng (.bin .add (.int 1) (.call 92 (.cons (.io 2) (.cons (.int 3) .nil))))) (.cons (.asg 0 6 (.call 435 (.cons (.io 2) (.cons (.var 6) (.cons (.int 8) .nil))))) .nil) [7]) (.cons (.ite (.or (.cons (.not (.call 436 (.cons (.var 6) (.cons (.var 3) .nil)))) (.cons (.not (.call 436 (.cons (.var 6) (.cons (.idx (.lst (.cons (.int 2) (.cons (.int 4) (.cons (.int 8) (.cons (.int 16) .nil))))) (.call 92 (.cons (.io 2) (.cons (.int 4) .nil)))) .nil)))) .nil))) (.cons (.ret (.bl false)) .nil) .nil []) .nil))) [5, 6, 7]) .nil)))))) [1, 2, 3, 4, 5, 6, 7]) (.cons (.ret (.bl true)) .nil))
def m_437 : MDef := ⟨1, 8, 0, bd_437⟩
class C_437 (T : Tab) : Prop extends C_91 T, C_92 T, C_403 T, C_418 T, C_420 T, C_435 T, C_436 T, CF T where
  h_437 : T 437 = some m_437
theorem q_437 {T : Tab} {G : Nat → D} {n : Nat} [C_437 T] {a0 : R} : callN T G (n + 1) 437 [a0] = bnd (evSs (callN T G n) G (ownT T) bd_437 [a0, .un, .un, .un, .un, .un, .un, .un]) (endOf 1) := by
  rw [callN_at (C_437.h_437 (T := T))]
  rfl
theorem rq_437 {T : Tab} {G : Nat → D} {n : Nat} [C_437 T] {a0 : R} : callN T G (n + 1) (437 + rsK) [a0] = bnd (rsSs (callN T G n) G (ownT T) bd_437 [a0, .un, .un, .un, .un, .un, .un, .un]) fun p => some (.str p.1, []) := by
  rw [callR_at (C_437.h_437 (T := T))]
  rfl
@[scoped simp] theorem Ev.own_437 {T : Tab} [C_437 T] : ownT T 437 = 0 := ownT_at (C_437.h_437 (T := T))
theorem sw_inv {d : D} (h : isSw d = true) : ∃ b, d = swD b := by
  cases d with
  | int i =>
    simp only [isSw, Bool.and_eq_true, decide_eq_true_eq] at h
    rcases (show i = 0 ∨ i = 1 by omega) with rfl | rfl
    · exact ⟨false, rfl⟩
    · exact ⟨true, rfl⟩
  | _ => cases h
theorem sws_inv : ∀ {l : List D}, l.all isSw = true → ∃ f : List Bool, l = f.map swD
  | [], _ => ⟨[], rfl⟩
  | d :: l, h => by
    rw [List.all_cons, Bool.and_eq_true] at h
    obtain ⟨b, rfl⟩ := sw_inv h.1
    obtain ⟨f, rfl⟩ := sws_inv h.2
    exact ⟨b :: f, rfl⟩
theorem are_inv {m : Nat} {d : D} (h : areSw m d = true) : ∃ f : List Bool, f.length = m ∧ d = swsD f := by
  cases d with
  | tuple l =>
    simp only [areSw, Bool.and_eq_true, decide_eq_true_eq] at h
    obtain ⟨f, rfl⟩ := sws_inv h.2
    exact ⟨f, by simpa using h.1, rfl⟩
  | _ => cases h
theorem net_inv : ∀ (k : Nat) (d : D), isNet k d = true → ∃ nt, Net.Of k nt ∧ d = nt.enc
  | 0, d, h => by
    obtain ⟨b, rfl⟩ := sw_inv h
    exact ⟨.sw b, trivial, rfl⟩
  | k + 1, d, h => by
    unfold isNet at h
    split at h
    · rename_i e; cases e
    · rename_i k' a b c e h1
      cases h1
      simp only [Bool.and_eq_true] at h
      obtain ⟨⟨⟨h1, h2⟩, h3⟩, h4⟩ := h
      obtain ⟨f, f1, rfl⟩ := are_inv h1
      obtain ⟨t, t1, rfl⟩ := are_inv h2
      obtain ⟨u, u1, rfl⟩ := net_inv k b h3
      obtain ⟨l, l1, rfl⟩ := net_inv k c h4
      exact ⟨.big f u l t, ⟨f1, u1, l1, t1⟩, rfl⟩
    · cases h
theorem pl_sws {c k : Nat} (hc : 1 ≤ c) : ∀ {f : List Bool}, PLs (Pw c k) (68 * f.length) (f.map swD)
  | [] => trivial
  | b :: f => ⟨66, 68 * f.length, Pw.atm (d := swD b) (by cases b <;> simp [swD, Atm] <;> omega) (Nat.le_refl _) k, pl_sws hc, by rw [List.length_cons]; omega⟩
def wN : Nat → Nat
  | 0 => 66
  | k + 1 => 2 * (68 * lanes k + 5) + 2 * (wN k + 2) + 3
theorem net_pw {c : Nat} (hc : 1 ≤ c) : ∀ {k : Nat} {nt : Net}, Net.Of k nt → Pw c (k + 1) (wN k) nt.enc
  | 0, .sw b, _ => Pw.atm (d := swD b) (by cases b <;> simp [swD, Atm] <;> omega) (Nat.le_refl _) 1
  | k + 1, .big f u l t, ⟨h1, h2, h3, h4⟩ => by
    have e1 : Pw c (k + 1) (68 * lanes k + 3) (swsD f) := Pw.t (pl_sws hc) (by rw [h1]; exact Nat.le_refl _)
    have e4 : Pw c (k + 1) (68 * lanes k + 3) (swsD t) := Pw.t (pl_sws hc) (by rw [h4]; exact Nat.le_refl _)
    exact Pw.t (M := (68 * lanes k + 3 + 2) + ((wN k + 2) + ((wN k + 2) + ((68 * lanes k + 3 + 2) + 0)))) ⟨_, _, e1, ⟨_, _, net_pw hc h2, ⟨_, _, net_pw hc h3, ⟨_, _, e4, trivial, Nat.le_refl _⟩, Nat.le_refl _⟩, Nat.le_refl _⟩, Nat.le_refl _⟩ (by simp only [wN]; omega)
theorem wN_le {k : Nat} (hk : k ≤ 3) : wN k ≤ 4000 := by
  rcases (show k = 0 ∨ k = 1 ∨ k = 2 ∨ k = 3 by omega) with rfl | rfl | rfl | rfl <;> decide
theorem ai {c : Nat} {i : Int} {k N : Nat} (h0 : -(c : Int) ≤ i) (h1 : i ≤ c) (hN : 66 ≤ N) : Pw c k N (.int i) := Pw.atm (d := .int i) ⟨h0, h1⟩ hN k
theorem as {c k N : Nat} {w : Str} (hN : 66 ≤ N) (h : (PyData.strOk w && decide ((reprText w).length ≤ 66)) = true := by decide +kernel) : Pw c k N (.str w) := by
  rw [Bool.and_eq_true, decide_eq_true_eq] at h
  exact Pw.atm (d := .str w) h hN k
section
variable {T : Tab} {G : Nat → D} {n : Nat}
theorem leaf_W [C_433 T] {s x : D} {b c k N : Nat} {Q : D × List R → Prop} (hc : 2 ≤ c) (hx : Pw c k N x) (hN : ∀ l, x ≠ .tuple l) (h : LSd s b) (hb : b < 800000)
    (K : ∀ d s', Pw (c + 1) (k + 2) (3 * N + 1000) d → LSd s' (b + 1) → Q (d, [.io 1 s', .un])) : W (callN T G (n + 3) 433 [.io 1 s, .val x]) Q := by
  have key : ∀ d : D, d ∈ [PyData.int 1, .int 0, .int 2, .int (-1), .bool true, .bool false, .none, .str "0", .tuple [], .tuple [.int 0], .list [.int 0], .tuple [.int 0, .int 1]] → Pw (c + 1) (k + 2) (3 * N + 1000) d := by
    intro d hd
    simp only [List.mem_cons, List.not_mem_nil, or_false] at hd
    have i0 : Pw (c + 1) (k + 1) 66 (.int 0) := ai (by omega) (by omega) (Nat.le_refl _)
    have i1 : Pw (c + 1) (k + 1) 66 (.int 1) := ai (by omega) (by omega) (Nat.le_refl _)
    rcases hd with rfl | rfl | rfl | rfl | rfl | rfl | rfl | rfl | rfl | rfl | rfl | rfl
    · exact ai (by omega) (by omega) (by omega)
    · exact ai (by omega) (by omega) (by omega)
    · exact ai (by omega) (by omega) (by omega)
    · exact ai (by omega) (by omega) (by omega)
    · exact Pw.atm (d := .bool true) trivial (by omega) _
    · exact Pw.atm (d := .bool false) trivial (by omega) _
    · exact Pw.atm (d := .none) trivial (by omega) _
    · exact as (by omega)
    · exact Pw.t (M := 0) trivial (by omega)
    · exact Pw.t (PLs.one i0) (by omega)
    · exact Pw.l (PLs.one i0) (by omega)
    · exact Pw.t (M := 136) ⟨_, _, i0, PLs.one i1, by omega⟩ (by omega)
  have it : ∀ {P : D → Prop} {v : Int}, 0 ≤ v → (∀ d, Pw (c + 1) (k + 2) (3 * N + 1000) d → P d) → W (ixD [PyData.int 1, .int 0, .int 2, .int (-1), .bool true, .bool false, .none, .str "0", .tuple [], .tuple [.int 0], .list [.int 0], .tuple [.int 0, .int 1]] (v % 12)) P := fun hv hP =>
    ixl_W (Pw (c + 1) (k + 2) (3 * N + 1000)) (by omega) (by simp; omega) key hP
  cases x with
  | tuple l => exact absurd rfl (hN l)
  | int i =>
    have hi : Atm c (.int i) := by
      cases k with
      | zero => exact hx.1
      | succ k => rcases hx with ⟨h, _⟩ | ⟨l, M, e, _⟩
                  · exact h
                  · rcases e with e | e <;> cases e
    simp only [Atm] at hi
    rw [q_433]
    simp [bd_433]
    refine pick_W h (by omega) (by omega) (by omega) fun v s1 a1 b1 l1 => ?_
    simp
    by_cases hv : 12 ≤ v
    · simp [hv]
      exact K _ s1 (ai (by omega) (by omega) (by omega)) l1
    · simp [hv]
      refine it a1 fun d pd => ?_
      simp
      exact K _ s1 pd l1
  | bool i =>
    rw [q_433]
    simp [bd_433]
    refine pick_W h (by omega) (by omega) (by omega) fun v s1 a1 b1 l1 => ?_
    simp
    by_cases hv : 12 ≤ v
    · simp [hv]
      cases i
      · exact K _ s1 (ai (by simp <;> omega) (by simp <;> omega) (by omega)) l1
      · exact K _ s1 (ai (by simp <;> omega) (by simp <;> omega) (by omega)) l1
    · simp [hv]
      refine it a1 fun d pd => ?_
      simp
      exact K _ s1 pd l1
  | _ =>
    rw [q_433]
    simp [bd_433]
    refine pick_W h (by omega) (by omega) (by omega) fun v s1 a1 b1 l1 => ?_
    simp
    by_cases hv : 12 ≤ v
    all_goals
      simp [hv]
      refine it a1 fun d pd => ?_
      simp
      exact K _ s1 pd l1
theorem row_W [C_434 T] {s : D} {b c k M : Nat} {l : List D} {Q : D × List R → Prop} (hc : 2 ≤ c) (hx : PLs (Pw c k) M l) (hM : M ≤ 1000000) (hk : 2 ≤ k) (h : LSd s b) (hb : b < 800000)
    (K : ∀ d s', Pw c (k + 1) (3 * M + 1000) d → LSd s' (b + 3) → Q (d, [.io 1 s', .un])) : W (callN T G (n + 3) 434 [.io 1 s, .val (.tuple l)]) Q := by
  have hl := hx.len
  obtain ⟨k, rfl⟩ : ∃ j, k = j + 2 := ⟨k - 2, by omega⟩
  rw [q_434]
  simp [bd_434]
  refine pick_W h (by omega) (by omega) (by omega) fun v1 s1 a1 b1 l1 => ?_
  simp
  refine pick_W l1 (by omega) (by omega) (by omega) fun v2 s2 a2 b2 l2 => ?_
  simp
  refine pick_W l2 (by omega) (by omega) (by omega) fun v3 s3 a3 b3 l3 => ?_
  simp
  have i0 : ∀ j, Pw c j 66 (.int 0) := fun j => ai (by omega) (by omega) (Nat.le_refl _)
  have t0 : Pw c (k + 1) 71 (.tuple [.int 0]) := Pw.t (PLs.one (i0 _)) (by omega)
  refine ixl_W (Pw c (k + 2) 600) a3 (by simpa using b3) (by
    intro x hx
    simp only [List.mem_cons, List.not_mem_nil, or_false] at hx
    rcases hx with rfl | rfl | rfl | rfl | rfl | rfl | rfl
    · exact ai (by omega) (by omega) (by omega)
    · exact ai (by omega) (by omega) (by omega)
    · exact (t0.mono (Nat.le_refl _) (by omega) (by omega))
    · exact Pw.t (M := 136) ⟨_, _, i0 _, PLs.one (i0 _), by omega⟩ (by omega)
    · exact Pw.atm (d := .none) trivial (by omega) _
    · exact Pw.t (M := 300) ⟨_, _, t0, ⟨_, _, i0 _, ⟨_, _, i0 _, PLs.one t0, Nat.le_refl _⟩, Nat.le_refl _⟩, by omega⟩ (by omega)
    · exact as (by omega)) fun o ho => ?_
  obtain ⟨A, eA⟩ : ∃ A, cutD l none (some v2) = A := ⟨_, rfl⟩
  obtain ⟨B, eB⟩ : ∃ A, cutD l (some (v2 + 1)) none = A := ⟨_, rfl⟩
  obtain ⟨C, eC⟩ : ∃ A, cutD l (some v2) (some (v2 + 1)) = A := ⟨_, rfl⟩
  obtain ⟨D1, eD⟩ : ∃ A, cutD l (some v2) none = A := ⟨_, rfl⟩
  obtain ⟨E, eE⟩ : ∃ A, cutD l (some v2) (some (v2 + 2)) = A := ⟨_, rfl⟩
  obtain ⟨F, eF⟩ : ∃ A, cutD l (some (v2 + 2)) none = A := ⟨_, rfl⟩
  obtain ⟨H, eH⟩ : ∃ A, cutD l (some (v2 + v1 - 5)) none = A := ⟨_, rfl⟩
  have pA : PLs (Pw c (k + 2)) M A := eA ▸ hx.cut
  have pB : PLs (Pw c (k + 2)) M B := eB ▸ hx.cut
  have pC : PLs (Pw c (k + 2)) M C := eC ▸ hx.cut
  have pD : PLs (Pw c (k + 2)) M D1 := eD ▸ hx.cut
  have pE : PLs (Pw c (k + 2)) M E := eE ▸ hx.cut
  have pF : PLs (Pw c (k + 2)) M F := eF ▸ hx.cut
  have pH : PLs (Pw c (k + 2)) M H := eH ▸ hx.cut
  have nA := pA.len
  have nB := pB.len
  have nC := pC.len
  have nD := pD.len
  have nE := pE.len
  have nF := pF.len
  have nH := pH.len
  have f1 := fits_of (show A.length + B.length ≤ 16777216 by omega)
  have f2 := fits_of (show A.length + C.length ≤ 16777216 by omega)
  have f3 := fits_of (show A.length + C.length + D1.length ≤ 16777216 by omega)
  have f4 := fits_of (show A.length + E.length ≤ 16777216 by omega)
  have f5 := fits_of (show A.length + E.length + F.length ≤ 16777216 by omega)
  have f6 := fits_of (show A.length + 1 ≤ 16777216 by omega)
  have f7 := fits_of (show A.length + 1 + H.length ≤ 16777216 by omega)
  simp [-Ev.cut_eq]
  refine .cnd (fun _ => ?_) fun _ => ?_
  · simp [-Ev.cut_eq, eA, eB, f1]
    exact K _ s3 (Pw.t (pA.app pB) (by omega)) (l3.mono (by omega))
  simp
  refine .cnd (fun _ => ?_) fun _ => ?_
  · simp [-Ev.cut_eq, eA, eC, eD, f2, f3]
    exact K _ s3 (Pw.t (pA.app (pC.app pD)) (by omega)) (l3.mono (by omega))
  simp
  refine .cnd (fun _ => ?_) fun _ => ?_
  · simp [-Ev.cut_eq, eA, eE, eF, f4, f5]
    exact K _ s3 (Pw.t (pA.app (pE.rev.app pF)) (by omega)) (l3.mono (by omega))
  simp
  refine .cnd (fun _ => ?_) fun _ => ?_
  · simp
    exact K _ s3 (Pw.l hx (by omega)) (l3.mono (by omega))
  simp [-Ev.cut_eq, eA, eH, f6, f7]
  exact K _ s3 (Pw.t (pA.app (M := 602 + M) (⟨600, M, ho, pH, Nat.le_refl _⟩)) (by omega)) (l3.mono (by omega))
theorem spoilt_W [C_435 T] {c : Nat} (hc : 2 ≤ c) (hcc : c < 2 ^ 63) : ∀ (e : Nat) {L : Nat} {s x : D} {b k N : Nat} {Q : D × List R → Prop}, Pw c k N x → k ≤ 50 → N ≤ 1000000 → e + 4 ≤ L → LSd s b → b + 3 * e < 700000 →
    (∀ d s', Pw (c + 1) (k + 2) (3 * N + 1000) d → LSd s' (b + 3 * e + 5) → Q (d, [.io 1 s', .un, .un])) → W (callN T G L 435 [.io 1 s, .val x, .val (.int (e : Nat))]) Q := by
  intro e
  induction e with
  | zero =>
    intro L s x b k N Q hx hk5 hN hL h hb K
    obtain ⟨n, rfl⟩ : ∃ n, L = n + 4 := ⟨L - 4, by omega⟩
    cases x with
    | tuple l =>
      cases k with
      | zero => exact hx.1.elim
      | succ k =>
        obtain ⟨M, pl, hM⟩ := hx.tup
        have s0 : Shp (.tuple []) 20 := shp_t (k := 19) (by simp)
        have pl2 : PLs (Pw (c + 1) (k + 2)) M l := pl.mono (fun a x h => h.mono (by omega) (by omega) (Nat.le_refl _)) (Nat.le_refl _)
        have sl : Shp (.tuple l) 60 := (hx.shw hcc).1.mono (by omega)
        cases l with
        | nil =>
          have e0 : eqD (.tuple []) (.tuple []) = some true := by rw [Ev.eq_tt, s0.shaped]; simp
          rw [q_435]
          simp [bd_435, e0, -Ev.eq_tt]
          refine row_W (by omega) pl2 (by omega) (by omega) h (by omega) fun d s1 pd l1 => ?_
          simp
          exact K d s1 (pd.mono (Nat.le_refl _) (Nat.le_refl _) (by omega)) (l1.mono (by omega))
        | cons y r =>
          have e0 : eqD (.tuple (y :: r)) (.tuple []) = some false := by rw [Ev.eq_tt, sl.shaped, s0.shaped]; simp
          rw [q_435]
          simp [bd_435, e0, -Ev.eq_tt]
          refine row_W (by omega) pl2 (by omega) (by omega) h (by omega) fun d s1 pd l1 => ?_
          simp
          exact K d s1 (pd.mono (Nat.le_refl _) (Nat.le_refl _) (by omega)) (l1.mono (by omega))
    | _ =>
      rw [q_435]
      simp [bd_435]
      refine leaf_W hc hx (by simp) h (by omega) fun d s1 pd l1 => ?_
      simp
      exact K d s1 pd (l1.mono (by omega))
  | succ e ih =>
    intro L s x b k N Q hx hk5 hN hL h hb K
    obtain ⟨n, rfl⟩ : ∃ n, L = n + 5 := ⟨L - 5, by omega⟩
    cases x with
    | tuple l =>
      cases k with
      | zero => exact hx.1.elim
      | succ k =>
        obtain ⟨M, pl, hM⟩ := hx.tup
        have s0 : Shp (.tuple []) 20 := shp_t (k := 19) (by simp)
        have pl2 : PLs (Pw (c + 1) (k + 2)) M l := pl.mono (fun a x h => h.mono (by omega) (by omega) (Nat.le_refl _)) (Nat.le_refl _)
        have sl : Shp (.tuple l) 60 := (hx.shw hcc).1.mono (by omega)
        cases l with
        | nil =>
          have e0 : eqD (.tuple []) (.tuple []) = some true := by rw [Ev.eq_tt, s0.shaped]; simp
          rw [q_435]
          simp [bd_435, e0, -Ev.eq_tt]
          refine row_W (by omega) pl2 (by omega) (by omega) h (by omega) fun d s1 pd l1 => ?_
          simp
          exact K d s1 (pd.mono (Nat.le_refl _) (Nat.le_refl _) (by omega)) (l1.mono (by omega))
        | cons y r =>
          have e0 : eqD (.tuple (y :: r)) (.tuple []) = some false := by rw [Ev.eq_tt, sl.shaped, s0.shaped]; simp
          have ll := pl.len
          simp at ll
          have hne : ¬ ((e : Int) + 1 = 0) := by omega
          have he1 : (e : Int) + 1 - 1 = e := by omega
          rw [q_435]
          simp [bd_435, e0, hne, -Ev.eq_tt]
          refine pick_W h (by omega) (by omega) (by omega) fun v1 s1 a1 b1 l1 => ?_
          simp
          refine .cnd (fun _ => ?_) fun _ => ?_
          · simp
            refine row_W (by omega) pl2 (by omega) (by omega) l1 (by omega) fun d s1 pd l1 => ?_
            simp
            exact K d s1 (pd.mono (Nat.le_refl _) (Nat.le_refl _) (by omega)) (l1.mono (by omega))
          · simp
            refine pick_W l1 (by omega) (by omega) (by omega) fun v2 s2 a2 b2 l2 => ?_
            simp [-Ev.cut_eq]
            obtain ⟨i, rfl⟩ : ∃ i : Nat, v2 = i := ⟨v2.toNat, by omega⟩
            have hi : i < (y :: r).length := by simp; omega
            obtain ⟨xx, hxx⟩ : ∃ z, (y :: r)[i]? = some z := ⟨_, List.getElem?_eq_getElem hi⟩
            obtain ⟨w1, wa, w2, p1, px, p2, hw⟩ := pl.split hxx
            have ix : ixD (y :: r) (i : Int) = some xx := by rw [ixD_at hi]; exact hxx
            have c1 : cutD (y :: r) none (some (i : Int)) = (y :: r).take i := cut_to
            have c2 : cutD (y :: r) (some ((i : Int) + 1)) none = (y :: r).drop (i + 1) := cut_from
            generalize (y :: r).take i = A at *
            generalize (y :: r).drop (i + 1) = B at *
            have nA := p1.len
            have nB := p2.len
            have f1 := fits_of (show A.length + 1 ≤ 16777216 by omega)
            have f2 := fits_of (show A.length + 1 + B.length ≤ 16777216 by omega)
            simp [ix, c1, he1, -Ev.cut_eq]
            refine ih px (by omega) (by omega) (by omega) l2 (by omega) fun d s3 pd l3 => ?_
            have up : ∀ {N : Nat} {A : List D}, PLs (Pw c k) N A → PLs (Pw (c + 1) (k + 2)) N A := fun h => h.mono (fun a x h => h.mono (by omega) (by omega) (Nat.le_refl _)) (Nat.le_refl _)
            simp [c1, c2, f1, f2, -Ev.cut_eq]
            exact K _ s3 (Pw.t ((up p1).app (M := 3 * wa + 1000 + 2 + w2) (m := d :: B) ⟨_, _, pd, up p2, Nat.le_refl _⟩) (by omega)) (l3.mono (by omega))
    | _ =>
      rw [q_435]
      simp [bd_435]
      refine leaf_W hc hx (by simp) h (by omega) fun d s1 pd l1 => ?_
      simp
      exact K d s1 pd (l1.mono (by omega))
theorem rng_get {ys : List D} {m : Nat} (h : ys.length = m) : (List.range m).map (fun l => ys[l]?.getD .none) = ys := by
  refine List.ext_getElem? fun i => ?_
  rw [List.getElem?_map]
  rcases Nat.lt_or_ge i m with hi | hi
  · rw [List.getElem?_range hi, List.getElem?_eq_getElem (by omega)]
    simp [List.getElem?_eq_getElem (show i < ys.length by omega)]
  · rw [List.getElem?_eq_none (by simpa using hi), List.getElem?_eq_none (by omega)]
    rfl
theorem led_mem {k : Nat} {nt : Net} {xs : List D} {y : D} (hn : Net.Of k nt) (hxs : xs.length = lanes k) (hy : y ∈ ledL nt xs) : y ∈ xs := by
  obtain ⟨l, hl, rfl⟩ := List.mem_iff_getElem.mp hy
  have ll := led_len hn hxs
  obtain ⟨j, hj, e⟩ := lane_surj hn (show l < lanes k by omega)
  have e2 := led_lane hn hxs hj
  rw [e, List.getElem?_eq_getElem hl, List.getElem?_eq_getElem (by omega)] at e2
  rw [Option.some.inj e2]
  exact List.getElem_mem _
theorem right_ok [C_436 T] {k L : Nat} {x : D} (hk : k ≤ 3) (hx : Shw x 20 16000000) (hL : 12 ≤ L) : callN T G L 436 [.val x, .val (.int (lanes k : Nat))] = some (.bool true, [.un, .un]) := by
  obtain ⟨n, rfl⟩ : ∃ n, L = n + 12 := ⟨L - 12, by omega⟩
  obtain ⟨tx, ht⟩ := str_of hx
  have e1 := isnet_ok (T := T) (G := G) (L := n + 11) (d := x) k (by omega)
  have e2 := lnet_ok (T := T) (G := G) (L := n + 11) (d := x) k (by omega)
  refine W.eq ?_
  cases hi : isNet k x with
  | false =>
    rw [q_436]
    simp [bd_436, ht, e1, e2, hi]
  | true =>
    obtain ⟨nt, hn, rfl⟩ := net_inv k x hi
    have l16 := lanes16 hk
    have hr : rngOk (lanes k : Nat) = true := rngOk_of (by omega) (by omega)
    rw [q_436]
    simp [bd_436, ht, e1, e2, hi, hr]
    refine .of (comp_map' (fun k : Nat => PyData.int k) (fun j : Nat => .int (3 * (j : Int))) upTo0_map fun j hj => by simp) ?_
    simp [hr]
    generalize hxs' : (List.range (lanes k)).map (fun j : Nat => PyData.int (3 * (j : Int))) = xs
    have hxs : xs.length = lanes k := by rw [← hxs']; simp
    have sxs : ∀ y ∈ xs, Shp y 1 := by
      intro y hy
      rw [← hxs'] at hy
      obtain ⟨j, _, rfl⟩ := List.mem_map.mp hy
      exact shp_i
    refine .of (comp_map' (fun k : Nat => PyData.int k) (fun j : Nat => .int (laneN nt j : Nat)) upTo0_map fun j hj => ?_) ?_
    · simp at hj
      have := lane_ok (T := T) (G := G) (L := n + 11) hn hj (by omega)
      simp [this]
    have ll := led_len hn hxs
    have eA : (List.range (lanes k)).map (fun j : Nat => PyData.int (laneN nt j : Nat)) = ((List.range (lanes k)).map fun j : Nat => ((laneN nt j : Nat) : Int)).map PyData.int := by simp
    have gA : ∀ i : Nat, i < lanes k → ((List.range (lanes k)).map fun j : Nat => ((laneN nt j : Nat) : Int))[i]? = some (laneN nt i : Nat) := fun i hi => by simp [hi]
    have lA : ((List.range (lanes k)).map fun j : Nat => ((laneN nt j : Nat) : Int)).length = lanes k := by simp
    have sA : ∀ l : Nat, l < lanes k → (l : Int) ∈ (List.range (lanes k)).map fun j : Nat => ((laneN nt j : Nat) : Int) := fun l hl => by
      obtain ⟨j, hj, e⟩ := lane_surj hn hl
      exact List.mem_map.mpr ⟨j, List.mem_range.mpr hj, by rw [e]⟩
    have el := led_ok (T := T) (G := G) (L := n + 11) hn hxs (by omega) (by omega)
    have eb2 := back_ok (T := T) (G := G) (L := n + 11) hn ll.1 (by omega) (by omega)
    rw [(back_led hn hxs).1] at eb2
    simp [el, hr]
    rw [eA]
    generalize (List.range (lanes k)).map (fun j : Nat => ((laneN nt j : Nat) : Int)) = A at *
    have atx : ∀ j : Nat, j < lanes k → ixD xs (j : Int) = some ((xs[j]?).getD .none) := fun j hj => by
      rw [ixD_at (by omega), List.getElem?_eq_getElem (by omega)]
      rfl
    refine .of (comp_map' (fun k : Nat => PyData.int k) (fun l : Nat => ((ledL nt xs)[l]?).getD .none) upTo0_map fun l hl => ?_) ?_
    · simp at hl
      have hix := index_ints (sA l hl)
      have hlt : A.idxOf (l : Int) < lanes k := by rw [← lA]; exact List.idxOf_lt_length_of_mem (sA l hl)
      have hg : A[A.idxOf (l : Int)]? = some (l : Int) := by
        rw [List.getElem?_eq_getElem (by omega), List.getElem_idxOf]
      generalize A.idxOf (l : Int) = i at *
      rw [gA i hlt] at hg
      have e1 : laneN nt i = l := by
        have := Option.some.inj hg
        omega
      have e2 := led_lane hn hxs hlt
      rw [e1] at e2
      simp [hix, atx i hlt, e2, hxs, hlt]
    rw [rng_get ll.1]
    have s1 := same_ok (T := T) (G := G) (L := n + 11) 2 (shp_l fun y hy => sxs y (led_mem hn hxs hy)) (by omega)
    have s3 := same_ok (T := T) (G := G) (L := n + 11) 2 (shp_l sxs) (by omega)
    simp [s1, s3, el, eb2]
def st : Nat → Nat
  | 0 => 4000
  | i + 1 => 3 * st i + 1000
theorem st_ge : ∀ i, 4000 ≤ st i
  | 0 => Nat.le_refl _
  | i + 1 => by have := st_ge i; simp only [st]; omega
theorem st_le {i : Nat} (h : i ≤ 3) : st i ≤ 121000 := by
  rcases (show i = 0 ∨ i = 1 ∨ i = 2 ∨ i = 3 by omega) with rfl | rfl | rfl | rfl <;> decide
theorem law_ok [C_437 T] (ns : List Int) : ∃ os, callN T G0 40 437 [.scr ns] = some (.bool true, os) := by
  refine law_W ?_
  rw [q_437]
  simp [bd_437, rng_law (m := ns.length) (show (0 : Int) ≤ 6 by omega) (by omega)]
  refine W_forC (fun k : Nat => PyData.int k) upTo0_map ?_ ?_
  · intro x hx
    simp at hx
    have hx' : x < 1000 := by split at hx <;> omega
    simp
    refine left_W (by omega) fun d0 l0 => ?_
    simp
    refine pick_W l0 (by omega) (by omega) (by omega) fun v d1 a1 b1 l1 => ?_
    simp
    refine ixl_W (fun z => ∃ k : Nat, k ≤ 3 ∧ z = .int (lanes k : Nat)) a1 (by simpa using b1) ?_ ?_
    · intro z hz
      simp at hz
      rcases hz with rfl | rfl | rfl | rfl
      · exact ⟨0, by omega, rfl⟩
      · exact ⟨1, by omega, rfl⟩
      · exact ⟨2, by omega, rfl⟩
      · exact ⟨3, by omega, rfl⟩
    rintro _ ⟨k, hk, rfl⟩
    simp
    refine order_W (lanes16 hk) l1 (by omega) fun o s1 O l1 => ?_
    simp
    refine netfor_W hk O fun nt n1 n2 => ?_
    simp
    refine pick_W l1 (by omega) (by omega) (by omega) fun v2 s2 a2 b2 l2 => ?_
    simp
    have lat : ∀ (v : Int) {Q : D → Prop}, 0 ≤ v → v < 4 → (∀ j : Nat, j ≤ 3 → Q (.int (lanes j : Nat))) → W (ixD [PyData.int 2, .int 4, .int 8, .int 16] v) Q := by
      intro v Q h0 h1 hq
      refine ixl_W (fun z => ∃ k : Nat, k ≤ 3 ∧ z = .int (lanes k : Nat)) h0 (by simpa using h1) ?_ ?_
      · intro z hz
        simp at hz
        rcases hz with rfl | rfl | rfl | rfl
        · exact ⟨0, by omega, rfl⟩
        · exact ⟨1, by omega, rfl⟩
        · exact ⟨2, by omega, rfl⟩
        · exact ⟨3, by omega, rfl⟩
      · rintro _ ⟨j, hj, rfl⟩
        exact hq j hj
    refine .cnd (fun _ => ?_) fun _ => ?_
    rotate_left
    have l2 := l2.mono (show _ ≤ 12000 by omega)
    simp
    rotate_left
    simp
    have hp : 4 ^ k ≤ 4 ^ 3 := Nat.pow_le_pow_right (by decide) (by omega)
    refine net_W k (by omega) (by omega) l2 (by omega) fun nt s2 n1 l2 => ?_
    have l2 := l2.mono (show _ ≤ 12000 by omega)
    simp
    all_goals
      have pn : Pw 100 5 4000 nt.enc := (net_pw (c := 100) (by omega) n1).mono (Nat.le_refl _) (by omega) (wN_le hk)
      have r0 := right_ok (T := T) (G := G0) (L := 39) hk ((pn.shw (by decide)).2.mono (by omega) (by omega)) (by omega)
      simp [r0]
      refine W_forM (fun k : Nat => PyData.int k) (fun l ρ => ∃ s b, ρ = [.scr ns, .val (.int x), .own 1 s, .val (.int (lanes k : Nat)), .val nt.enc, .un, .un, .un] ∧ LSd s b ∧ b + 200 * l.length ≤ 14000) (xs := List.range 10) upTo0_map ⟨_, _, rfl, l2, by simp⟩ ?_ ?_
      · rintro t l _ ht ⟨s3, b3, rfl, h3, hb3⟩
        simp at hb3
        simp
        refine pick_W h3 (by omega) (by omega) (by omega) fun r s4 a4 b4 l4 => ?_
        simp
        have st0 := st_ge (3 - (1 + r).toNat)
        simp [rngOk_of (show -16777216 ≤ 1 + r by omega) (show 1 + r ≤ 16777216 by omega)]
        refine W_forM (fun k : Nat => PyData.int k) (fun l2 ρ => ∃ s b i y, ρ = [.scr ns, .val (.int x), .own 1 s, .val (.int (lanes k : Nat)), .val nt.enc, .val (.int t), .val y, .un] ∧ LSd s b ∧ b + 40 * l2.length ≤ b3 + 150 ∧ i + l2.length = 3 ∧ Pw (100 + i) (5 + 2 * i) (st i) y) (xs := List.range (1 + r).toNat) upTo0_map ⟨_, _, 3 - (1 + r).toNat, _, rfl, l4, by simp; omega, by simp; omega, pn.mono (by omega) (by omega) st0⟩ ?_ ?_
        · rintro u l2 _ hu ⟨s5, b5, i, y, rfl, h5, hb5, hi, py⟩
          simp at hb5 hi
          have sl := st_le (i := i) (by omega)
          simp
          refine spoilt_W (by omega) (by omega) 8 py (by omega) (by omega) (by omega) h5 (by omega) fun d s6 pd l6 => ?_
          simp
          exact ⟨_, _, i + 1, _, ⟨rfl, rfl⟩, l6, by omega, by omega, pd.mono (by omega) (by omega) (Nat.le_refl _)⟩
        · rintro _ ⟨s5, b5, i, y, rfl, h5, hb5, hi, py⟩
          simp at hb5 hi
          subst hi
          have sy : Shw y 20 16000000 := (py.shw (by decide)).2.mono (by omega) (by decide)
          have r1 := right_ok (T := T) (G := G0) (L := 39) hk sy (by omega)
          simp [r1]
          refine pick_W h5 (by omega) (by omega) (by omega) fun w s6 a6 b6 l6 => ?_
          simp
          refine lat w a6 b6 fun j hj => ?_
          have r2 := right_ok (T := T) (G := G0) (L := 39) hj sy (by omega)
          simp [r2]
          exact ⟨_, l6, by omega⟩
      · rintro _ ⟨s3, b3, rfl, h3, hb3⟩
        simp
  · simp
end
end BW

namespace BW.Lk60
open PySem PySem.Spec PyProof.Rows L2
def top (i : Nat) : Stmt := PySem.Challenge.pw_bankwalk_k60_whole_nets_spoilt_anywhere.main.body.getD i (.Pass ⟨0, 0, 0, 0⟩)
/-! k60: the defs in the small language, printed by gen.py -/
def b_400 : BDef := ⟨400, "is_switch", "is_switch", top 5, ["thing"], ["thing"], m_400⟩
def b_401 : BDef := ⟨401, "are_switches", "are_switches", top 6, ["thing", "many", "one"], ["thing", "many"], m_401⟩
def b_402 : BDef := ⟨402, "is_net", "is_net", top 7, ["thing", "lanes", "half"], ["thing", "lanes"], m_402⟩
def b_407 : BDef := ⟨407, "parted", "parted", top 8, ["switches", "things", "upper", "lower", "t", "switch"], ["switches", "things"], m_407⟩
def b_408 : BDef := ⟨408, "put_together", "put_together", top 9, ["switches", "upper", "lower", "found", "t", "switch", "two"], ["switches", "upper", "lower"], m_408⟩
def b_409 : BDef := ⟨409, "led", "led", top 10, ["net", "things", "first", "above", "below", "last", "upper", "lower"], ["net", "things"], m_409⟩
def b_410 : BDef := ⟨410, "led_back", "led_back", top 11, ["net", "things", "first", "above", "below", "last", "upper", "lower"], ["net", "things"], m_410⟩
def b_414 : BDef := ⟨414, "is_order", "is_order", top 12, ["order", "one"], ["order"], m_414⟩
def b_415 : BDef := ⟨415, "sides_for", "sides_for", top 13, ["order", "at", "k", "lane", "sides", "begin", "beside"], ["order"], m_415⟩
def b_416 : BDef := ⟨416, "inner_order", "inner_order", top 14, ["order", "sides", "side", "found", "k", "lane"], ["order", "sides", "side"], m_416⟩
def b_417 : BDef := ⟨417, "net_by", "net_by", top 15, ["order", "sides", "t", "first", "last", "k", "lane", "upper", "lower"], ["order"], m_417⟩
def b_418 : BDef := ⟨418, "net_for", "net_for", top 16, ["order"], ["order"], m_418⟩
def b_90 : BDef := ⟨90, "_law_mix", "_law_mix", top 18, ["_law_cell", "_law_k", "_law_m"], ["_law_cell", "_law_k"], m_90⟩
def b_91 : BDef := ⟨91, "_law_left", "_law_left", top 19, ["_law_script", "_law_k", "_law_cell", "_law_own"], ["_law_script", "_law_k"], m_91⟩
def b_92 : BDef := ⟨92, "_law_pick", "_law_pick", top 20, ["_law_left_here", "_law_many", "_law_digit"], ["_law_left_here", "_law_many"], m_92⟩
def b_93 : BDef := ⟨93, "_law_same", "_law_same", top 21, ["_law_found", "_law_due", "_law_one", "_law_other"], ["_law_found", "_law_due"], m_93⟩
def b_403 : BDef := ⟨403, "_law_net", "_law_net", top 22, ["_law_left_here", "_law_lanes", "_law_t", "_law_first", "_law_upper", "_law_lower"], ["_law_left_here", "_law_lanes"], m_403⟩
def b_411 : BDef := ⟨411, "_law_lane", "_law_lane", top 23, ["_law_net_here", "_law_k", "_law_side", "_law_at"], ["_law_net_here", "_law_k"], m_411⟩
def b_404 : BDef := ⟨404, "_law_is_net", "_law_is_net", top 24, ["_law_thing", "_law_lanes", "_law_some", "_law_one"], ["_law_thing", "_law_lanes"], m_404⟩
def b_420 : BDef := ⟨420, "_law_order", "_law_order", top 25, ["_law_left_here", "_law_lanes", "_law_rest", "_law_found", "_law_k"], ["_law_left_here", "_law_lanes"], m_420⟩
def b_433 : BDef := ⟨433, "_law_other_leaf", "_law_other_leaf", top 26, ["_law_left_here", "_law_thing", "_law_some", "_law_way"], ["_law_left_here", "_law_thing"], m_433⟩
def b_434 : BDef := ⟨434, "_law_other_row", "_law_other_row", top 27, ["_law_left_here", "_law_row", "_law_way", "_law_at", "_law_odd"], ["_law_left_here", "_law_row"], m_434⟩
def b_435 : BDef := ⟨435, "_law_spoilt", "_law_spoilt", top 28, ["_law_left_here", "_law_thing", "_law_deep", "_law_at"], ["_law_left_here", "_law_thing", "_law_deep"], m_435⟩
def b_436 : BDef := ⟨436, "_law_right", "_law_right", top 29, ["_law_thing", "_law_lanes", "_law_kept", "_law_found", "_law_k", "_law_things", "_law_at", "_law_lane_here"], ["_law_thing", "_law_lanes"], m_436⟩
def b_437 : BDef := ⟨437, "law", "law", top 30, ["_law_script", "_law_k", "_law_left_here", "_law_lanes", "_law_net_here", "_law_turn", "_law_odd", "_law_again"], ["_law_script"], m_437⟩
def ds : List BDef := [b_400, b_401, b_402, b_407, b_408, b_409, b_410, b_414, b_415, b_416, b_417, b_418, b_90, b_91, b_92, b_93, b_403, b_411, b_404, b_420, b_433, b_434, b_435, b_436, b_437]
theorem bind_400 : BindOk b_400 := fun _ _ _ _ _ _ us hl => match us, hl with
  | [_], _ => rfl
theorem bind_401 : BindOk b_401 := fun _ _ _ _ _ _ us hl => match us, hl with
  | [_, _], _ => rfl
theorem bind_402 : BindOk b_402 := fun _ _ _ _ _ _ us hl => match us, hl with
  | [_, _], _ => rfl
theorem bind_407 : BindOk b_407 := fun _ _ _ _ _ _ us hl => match us, hl with
  | [_, _], _ => rfl
theorem bind_408 : BindOk b_408 := fun _ _ _ _ _ _ us hl => match us, hl with
  | [_, _, _], _ => rfl
theorem bind_409 : BindOk b_409 := fun _ _ _ _ _ _ us hl => match us, hl with
  | [_, _], _ => rfl
theorem bind_410 : BindOk b_410 := fun _ _ _ _ _ _ us hl => match us, hl with
  | [_, _], _ => rfl
theorem bind_414 : BindOk b_414 := fun _ _ _ _ _ _ us hl => match us, hl with
  | [_], _ => rfl
theorem bind_415 : BindOk b_415 := fun _ _ _ _ _ _ us hl => match us, hl with
  | [_], _ => rfl
theorem bind_416 : BindOk b_416 := fun _ _ _ _ _ _ us hl => match us, hl with
  | [_, _, _], _ => rfl
theorem bind_417 : BindOk b_417 := fun _ _ _ _ _ _ us hl => match us, hl with
  | [_], _ => rfl
theorem bind_418 : BindOk b_418 := fun _ _ _ _ _ _ us hl => match us, hl with
  | [_], _ => rfl
theorem bind_90 : BindOk b_90 := fun _ _ _ _ _ _ us hl => match us, hl with
  | [_, _], _ => rfl
theorem bind_91 : BindOk b_91 := fun _ _ _ _ _ _ us hl => match us, hl with
  | [_, _], _ => rfl
theorem bind_92 : BindOk b_92 := fun _ _ _ _ _ _ us hl => match us, hl with
  | [_, _], _ => rfl
theorem bind_93 : BindOk b_93 := fun _ _ _ _ _ _ us hl => match us, hl with
  | [_, _], _ => rfl
theorem bind_403 : BindOk b_403 := fun _ _ _ _ _ _ us hl => match us, hl with
  | [_, _], _ => rfl
theorem bind_411 : BindOk b_411 := fun _ _ _ _ _ _ us hl => match us, hl with
  | [_, _], _ => rfl
theorem bind_404 : BindOk b_404 := fun _ _ _ _ _ _ us hl => match us, hl with
  | [_, _], _ => rfl
theorem bind_420 : BindOk b_420 := fun _ _ _ _ _ _ us hl => match us, hl with
  | [_, _], _ => rfl
theorem bind_433 : BindOk b_433 := fun _ _ _ _ _ _ us hl => match us, hl with
  | [_, _], _ => rfl
theorem bind_434 : BindOk b_434 := fun _ _ _ _ _ _ us hl => match us, hl with
  | [_, _], _ => rfl
theorem bind_435 : BindOk b_435 := fun _ _ _ _ _ _ us hl => match us, hl with
  | [_, _, _], _ => rfl
theorem bind_436 : BindOk b_436 := fun _ _ _ _ _ _ us hl => match us, hl with
  | [_, _], _ => rfl
theorem bind_437 : BindOk b_437 := fun _ _ _ _ _ _ us hl => match us, hl with
  | [_], _ => rfl
theorem binds : ∀ d ∈ ds, BindOk d := fun d hd => by
  unfold ds at hd
  simp only [List.mem_cons, List.not_mem_nil, or_false] at hd
  rcases hd with rfl | rfl | rfl | rfl | rfl | rfl | rfl | rfl | rfl | rfl | rfl | rfl | rfl | rfl | rfl | rfl | rfl | rfl | rfl | rfl | rfl | rfl | rfl | rfl | rfl
  · exact bind_400
  · exact bind_401
  · exact bind_402
  · exact bind_407
  · exact bind_408
  · exact bind_409
  · exact bind_410
  · exact bind_414
  · exact bind_415
  · exact bind_416
  · exact bind_417
  · exact bind_418
  · exact bind_90
  · exact bind_91
  · exact bind_92
  · exact bind_93
  · exact bind_403
  · exact bind_411
  · exact bind_404
  · exact bind_420
  · exact bind_433
  · exact bind_434
  · exact bind_435
  · exact bind_436
  · exact bind_437
def gls : List (PySem.Str × Nat) := [("SIZES", 3)]
def tbs : List (PySem.Str × Nat) := []
def cls : List PySem.Str := ["NoOrder"]
theorem okA : ds.all (okD (wdOf ds gls tbs cls)) = true := by decide +kernel
theorem idsA : idsOk ds = true := by decide +kernel
abbrev R : PySem.W.OpenRow := PySem.W.OpenLaw.row PySem.Challenge.rw_bankwalk_k60_whole_nets_spoilt_anywhere
def loose0 : List PySem.Str := ["BankError", "NoOrder", "SIZES", "is_switch", "are_switches", "is_net", "parted", "put_together", "led", "led_back", "is_order", "sides_for", "inner_order", "net_by", "net_for", "_law_mix", "_law_left", "_law_pick", "_law_same", "_law_net"]
def loose1 : List PySem.Str := ["_law_lane", "_law_is_net", "_law_order", "_law_other_leaf", "_law_other_row", "_law_spoilt", "_law_right"]
def loose : List PySem.Str := loose0 ++ loose1
theorem run (w : World) : HandSHeadRun.RunEq R (PySem.W.view R.prog [30]) (hookL G0 gls tbs cls ds) (obL G0 gls tbs cls ds) 4000 loose w := by
  intro os
  kernel_rfl
instance : C_437 (tabOf ds) := { h_90 := rfl, h_91 := rfl, h_92 := rfl, h_93 := rfl, h_400 := rfl, h_401 := rfl, h_402 := rfl, h_403 := rfl, h_404 := rfl, h_407 := rfl, h_408 := rfl, h_409 := rfl, h_410 := rfl, h_411 := rfl, h_414 := rfl, h_415 := rfl, h_416 := rfl, h_417 := rfl, h_418 := rfl, h_420 := rfl, h_433 := rfl, h_434 := rfl, h_435 := rfl, h_436 := rfl, h_437 := rfl, far := tab_far idsA }
abbrev most : Nat := 63
abbrev room : Nat := 40
theorem val : ∀ ns : List Int, ns.length ≤ most → ∃ os, callN (tabOf ds) G0 room 437 [.scr ns] = some (.bool true, os) := fun ns _ => law_ok ns
end BW.Lk60
open PySem PySem.W PySem.Calls PyProof.Rows
theorem PySem.Challenge.cw_bankwalk_k60_whole_nets_spoilt_anywhere_holds : PySem.Challenge.rw_bankwalk_k60_whole_nets_spoilt_anywhere.Holds := by
  w_on; o_law
  refine HandSHeadRun.head_any (r := OpenLaw.row PySem.Challenge.rw_bankwalk_k60_whole_nets_spoilt_anywhere) (q := view (OpenLaw.row PySem.Challenge.rw_bankwalk_k60_whole_nets_spoilt_anywhere).prog [30]) (H := BW.hookL BW.G0 BW.Lk60.gls BW.Lk60.tbs BW.Lk60.cls BW.Lk60.ds) (ob := BW.obL BW.G0 BW.Lk60.gls BW.Lk60.tbs BW.Lk60.cls BW.Lk60.ds) (M := 4000) (loose := BW.Lk60.loose) (d := HandSHeadRun.topDef (OpenLaw.row PySem.Challenge.rw_bankwalk_k60_whole_nets_spoilt_anywhere).prog 30) (kwd := []) BW.obL_eq
    (by kernel_rfl) (fun s => by kernel_rfl) BW.Lk60.run (by kernel_rfl) (by kernel_rfl) (by kernel_rfl) (by rfl) (by first | assumption | decide +kernel) (by decide +kernel) ⟨rfl, rfl, rfl, rfl, rfl, by decide +kernel⟩ ?hw ?hc
  case hw => w_witness2
  case hc =>
    refine BW.walk_bw (l := PySem.Challenge.rw_bankwalk_k60_whole_nets_spoilt_anywhere) (n := BW.Lk60.most) (k := BW.Lk60.room) (fl := 437) (ds := BW.Lk60.ds) (dl := BW.Lk60.b_437) (x := "_law_script") (G := BW.G0) (gls := BW.Lk60.gls) (tbs := BW.Lk60.tbs) (cs := BW.Lk60.cls) rfl (by decide) (by kernel_rfl) ⟨⟨rfl, by decide, by decide⟩, rfl⟩ (by rfl) (by decide +kernel) ?_ (by kernel_rfl) BW.Lk60.okA BW.Lk60.idsA BW.Lk60.binds BW.Lk60.val
    rintro w h mg ⟨K, X, c⟩ G
    exact ⟨K, X, BW.facts_of X G c⟩
