import PyProof.Rows.All
import Wide.All
import OpenK.AllK
import Wide.FinOn
import HandS.ForMost
import HandS.Wide
import HandS.TupSets
import HandS.TupMul
import HandS.TupAny
import HandS.Defaults
import HandS.Rev
import HandS.Zip
import HandS.IsInst
import HandS.WideBits
import HandS.Style
import HandS.SortInts
import KE.KTupSum
import HandS.TupLen
import HandS.WordsDict
import HandS.Conv
import HandS.NoneIn
import HandS.Comp
import HandS.RevTup
import PyProof.ListStr
import PySem.Challenge.RW_costsahead_k72_whole_dear_deeds_seldom
set_option Elab.async false
set_option linter.all false
set_option maxRecDepth 100000
set_option autoImplicit true
/-! The tree layer, part 1: values as trees, the small language, its meaning. -/
namespace TL
open PySem

/-- a value, as a tree; a dict: its keys, its values -/
inductive D where
  | non | bl (b : Bool) | int (i : Int) | str (x : Str) | tup (xs : List D) | lst (xs : List D) | dic (ks vs : List D) | bag

/-- the law's bag of draws -/
structure Bag where
  cells : List Int
  b : Int
  m : Int
  ok : 0 ≤ m ∧ m < 2147483647

/-- a local name: unknown, a value, a list or dict of its own -/
inductive Sl where
  | no | va (d : D) | ow (xs : List D) | od (ks vs : List D)

/-- the greatest length -/
def LIM : Nat := 16777216

/-! ### == as data -/
mutual
def eqD : D → D → Bool
  | .non, e => match e with | .non => true | _ => false
  | .bl a, e => match e with | .bl b => a == b | .int j => decide ((if a then 1 else 0) = j) | _ => false
  | .int i, e => match e with | .bl b => decide (i = (if b then 1 else 0)) | .int j => decide (i = j) | _ => false
  | .str x, e => match e with | .str y => decide (x = y) | _ => false
  | .tup xs, e => match e with | .tup ys => eqDs xs ys | _ => false
  | .lst xs, e => match e with | .lst ys => eqDs xs ys | _ => false
  | .dic _ _, _ => false
  | .bag, _ => false
def eqDs : List D → List D → Bool
  | [], ys => match ys with | [] => true | _ :: _ => false
  | x :: xs, ys => match ys with | [] => false | y :: ys => eqD x y && eqDs xs ys
end
/-- data that == reads: no dict, texts that are texts, nested at most n deep -/
def okStr (x : Str) : Bool := x.cps.all (· < 0x110000)
mutual
def okD : D → Nat → Bool
  | .non, _ => true
  | .bl _, _ => true
  | .int _, _ => true
  | .str x, _ => okStr x
  | .tup xs, n => decide (0 < n) && okDs xs (n - 1)
  | .lst xs, n => decide (0 < n) && okDs xs (n - 1)
  | .dic _ _, _ => false
  | .bag, _ => false
def okDs : List D → Nat → Bool
  | [], _ => true
  | x :: xs, n => okD x n && okDs xs n
end
def isNon : D → Bool
  | .non => true
  | _ => false
/-! no list, dict or bag within -/
mutual
def flat : D → Bool
  | .non => true
  | .bl _ => true
  | .int _ => true
  | .str _ => true
  | .tup xs => flats xs
  | .lst _ => false
  | .dic _ _ => false
  | .bag => false
def flats : List D → Bool
  | [] => true
  | x :: xs => flat x && flats xs
end

/-! ### names -/
def getV : List Sl → Nat → Option D
  | [], _ => none
  | s :: r, n => match n with
    | 0 => match s with | .va d => some d | _ => none
    | n + 1 => getV r n
def getB : List Sl → Nat → Option D
  | [], _ => none
  | s :: r, n => match n with
    | 0 => match s with | .va d => some d | .ow xs => some (.lst xs) | .od ks vs => some (.dic ks vs) | .no => none
    | n + 1 => getB r n
def getO : List Sl → Nat → Option (List D)
  | [], _ => none
  | s :: r, n => match n with
    | 0 => match s with | .ow xs => some xs | _ => none
    | n + 1 => getO r n
def frz1 : Sl → Sl
  | .ow xs => .va (.lst xs)
  | .od ks vs => .va (.dic ks vs)
  | s => s
def frzS (σ : List Sl) : List Nat → List Sl
  | [] => σ
  | i :: is => (frzS σ is).modify i frz1
def wipeS (σ : List Sl) : List Nat → List Sl
  | [] => σ
  | i :: is => (wipeS σ is).set i .no
/-- o's value, if it is there -/
def bnd {α : Type} (o : Option α) (K : α → Prop) : Prop := match o with
  | some a => K a
  | none => False
theorem bnd_some {α : Type} {a : α} {K : α → Prop} : bnd (some a) K = K a := rfl
theorem bnd_none {α : Type} {K : α → Prop} : bnd none K = False := rfl
theorem bnd_mono {α : Type} {o : Option α} {K K' : α → Prop} (h : ∀ a, K a → K' a) (q : bnd o K) : bnd o K' := by
  cases o with
  | none => exact q
  | some a => exact h a q
theorem bnd_iff {α : Type} {o : Option α} {K : α → Prop} : bnd o K ↔ ∃ a, o = some a ∧ K a := by
  cases o with
  | none => exact ⟨fun h => False.elim h, fun ⟨a, e, _⟩ => nomatch e⟩
  | some a => exact ⟨fun h => ⟨a, rfl, h⟩, fun ⟨b, e, h⟩ => by cases e; exact h⟩
/-- a bool -/
def tst (d : D) (K : Bool → Prop) : Prop := match d with
  | .bl b => K b
  | _ => False
theorem tst_bl {b : Bool} {K : Bool → Prop} : tst (.bl b) K = K b := rfl
theorem tst_mono {d : D} {K K' : Bool → Prop} (h : ∀ a, K a → K' a) (q : tst d K) : tst d K' := by
  cases d <;> first | exact h _ q | exact q

/-! ### operators -/
inductive BOp where
  | add | sub | mul | fdiv | mod | pow | shl | shr | band | bor | bxor
  deriving DecidableEq
inductive COp where
  | lt | le | gt | ge | eq | ne | isN | isnN | isB | isnB | inn | nin
  deriving DecidableEq
def mulOk (i j : Int) : Prop := (-(2 ^ 64) < i ∧ i < 2 ^ 64) ∨ (-(2 ^ 64) < j ∧ j < 2 ^ 64) ∨ i.natAbs.log2 + j.natAbs.log2 < 1000000
def divOk (j : Int) : Prop := 0 < j ∧ j.natAbs.log2 < 9000
def smallK (k : Int) : Prop := k < 1000000
def addD (x y : D) (K : D → Prop) : Prop := match x with
  | .int i => match y with | .int j => K (.int (i + j)) | _ => False
  | .tup a => match y with | .tup b => a.length + b.length ≤ LIM ∧ K (.tup (a ++ b)) | _ => False
  | .lst a => match y with | .lst b => a.length + b.length ≤ LIM ∧ K (.lst (a ++ b)) | _ => False
  | .str a => match y with | .str b => a.length + b.length ≤ LIM ∧ K (.str (a ++ b)) | _ => False
  | _ => False
def subD (x y : D) (K : D → Prop) : Prop := match x with
  | .int i => match y with | .int j => K (.int (i - j)) | _ => False
  | _ => False
def repD (k : Int) (a : List D) : List D := (List.replicate k.toNat a).flatten
def mulD (x y : D) (K : D → Prop) : Prop := match x with
  | .int i => match y with | .int j => mulOk i j ∧ K (.int (i * j)) | _ => False
  | .tup a => match y with | .int k => -1000 ≤ k ∧ k ≤ 1000 ∧ a.length ≤ 1000 ∧ K (.tup (repD k a)) | _ => False
  | .lst a => match y with | .int k => -1000000 ≤ k ∧ k ≤ 1000000 ∧ a.length * k.toNat ≤ LIM ∧ K (.lst (repD k a)) | _ => False
  | _ => False
/-- two ints -/
def int2 (x y : D) (K : Int → Int → Prop) : Prop := match x with
  | .int i => match y with | .int j => K i j | _ => False
  | _ => False
def binD (o : BOp) (x y : D) (K : D → Prop) : Prop := match o with
  | .add => addD x y K
  | .sub => subD x y K
  | .mul => mulD x y K
  | .fdiv => int2 x y fun i j => divOk j ∧ K (.int (i / j))
  | .mod => int2 x y fun i j => 0 < j ∧ K (.int (i % j))
  | .pow => int2 x y fun i j => (0 ≤ j ∧ j ≤ 1000000 ∧ i.natAbs < 2 ^ 64) ∧ K (.int (i ^ j.toNat))
  | .shl => int2 x y fun i j => (0 ≤ j ∧ j ≤ 1000000 ∧ i.natAbs < 2 ^ 64) ∧ K (.int (i * 2 ^ j.toNat))
  | .shr => int2 x y fun i j => 0 ≤ j ∧ K (.int (i / 2 ^ j.toNat))
  | .band => int2 x y fun i j => K (.int (Builtin.bitAnd i j))
  | .bor => int2 x y fun i j => K (.int (Builtin.bitOr i j))
  | .bxor => int2 x y fun i j => K (.int (Builtin.bitXor i j))
/-- ints, or texts -/
def ordD (p : Int → Int → Bool) (q : Str → Str → Bool) (x y : D) (K : Bool → Prop) : Prop := match x with
  | .int i => match y with | .int j => K (p i j) | _ => False
  | .str i => match y with | .str j => K (q i j) | _ => False
  | _ => False
def itemsOf : D → Option (List D)
  | .lst xs => some xs
  | .tup xs => some xs
  | _ => none
def inD (x : D) (ys : List D) : Bool := ys.any fun y => eqD y x
def cmpD (o : COp) (x y : D) (K : Bool → Prop) : Prop := match o with
  | .lt => ordD (fun i j => decide (i < j)) (fun i j => decide (i.cps.toList < j.cps.toList)) x y K
  | .le => ordD (fun i j => decide (i ≤ j)) (fun i j => !decide (j.cps.toList < i.cps.toList)) x y K
  | .gt => ordD (fun i j => decide (j < i)) (fun i j => decide (j.cps.toList < i.cps.toList)) x y K
  | .ge => ordD (fun i j => decide (j ≤ i)) (fun i j => !decide (i.cps.toList < j.cps.toList)) x y K
  | .eq => (okD x 60 = true ∧ okD y 60 = true) ∧ K (eqD x y)
  | .ne => (okD x 60 = true ∧ okD y 60 = true) ∧ K (!eqD x y)
  | .isN => match y with | .non => K (isNon x) | _ => False
  | .isnN => match y with | .non => K (!isNon x) | _ => False
  | .isB => tst x fun a => tst y fun b => K (decide (a = b))
  | .isnB => tst x fun a => tst y fun b => K (!decide (a = b))
  | .inn => bnd (itemsOf y) fun ys => (okD x 59 = true ∧ okDs ys 59 = true) ∧ K (inD x ys)
  | .nin => bnd (itemsOf y) fun ys => (okD x 59 = true ∧ okDs ys 59 = true) ∧ K (!inD x ys)

/-! ### built-in functions -/
inductive BI where
  | len | abs | max | min | sum | int | tuple | list | sorted | lrev | trev | lrange | trange | all | any | bitlen | repr | sset
  deriving DecidableEq
inductive Ty where
  | int | bool | str | tuple | list
  deriving DecidableEq
def isTy (t : Ty) : D → Bool
  | .int _ => t == .int
  | .bl _ => t == .int || t == .bool
  | .str _ => t == .str
  | .tup _ => t == .tuple
  | .lst _ => t == .list
  | .bag => t == .list
  | _ => false
def maxI : List Int → Int
  | [] => 0
  | x :: xs => xs.foldl (fun a b => if b > a then b else a) x
def minI : List Int → Int
  | [] => 0
  | x :: xs => xs.foldl (fun a b => if b < a then b else a) x
def one (ds : List D) (K : D → Prop) : Prop := match ds with
  | [d] => K d
  | _ => False
/-- max, min: of two ints, or of a list of ints -/
def extD (f : Int → Int → Int) (g : List Int → Int) (ds : List D) (K : D → Prop) : Prop := match ds with
  | [x] => ∃ ns : List Int, x = .lst (ns.map D.int) ∧ ns ≠ [] ∧ K (.int (g ns))
  | [x, y] => int2 x y fun i j => K (.int (f i j))
  | _ => False
def rngD (lo hi : Int) : List D := (List.range (hi - lo).toNat).map fun (i : Nat) => D.int (lo + (i : Int))
def biD (b : BI) (ds : List D) (K : D → Prop) : Prop := match b with
  | .len => one ds fun d => match d with
    | .lst xs => K (.int (xs.length : Nat))
    | .tup xs => K (.int (xs.length : Nat))
    | .dic ks _ => K (.int (ks.length : Nat))
    | .str x => x.length ≤ LIM ∧ K (.int (x.length : Nat))
    | _ => False
  | .abs => one ds fun d => match d with | .int i => K (.int (if i < 0 then -i else i)) | _ => False
  | .max => extD (fun i j => if j > i then j else i) maxI ds K
  | .min => extD (fun i j => if j < i then j else i) minI ds K
  | .sum => one ds fun d => bnd (itemsOf d) fun xs => ∃ ns : List Int, xs = ns.map D.int ∧ K (.int ns.sum)
  | .int => one ds fun d => match d with | .int i => K (.int i) | .bl k => K (.int (if k then 1 else 0)) | _ => False
  | .tuple => one ds fun d => bnd (itemsOf d) fun xs => K (.tup xs)
  | .list => one ds fun d => bnd (itemsOf d) fun xs => K (.lst xs)
  | .sorted => one ds fun d => ∃ ns : List Int, d = .lst (ns.map D.int) ∧ ∀ ms : List Int, ms.Perm ns → ms.Pairwise (· ≤ ·) → K (.lst (ms.map D.int))
  | .lrev => one ds fun d => bnd (itemsOf d) fun xs => K (.lst xs.reverse)
  | .trev => one ds fun d => bnd (itemsOf d) fun xs => K (.tup xs.reverse)
  | .lrange => one ds fun d => match d with | .int n => n ≤ 1000000 ∧ K (.lst (rngD 0 n)) | _ => False
  | .trange => one ds fun d => match d with | .int n => n ≤ 1000000 ∧ K (.tup (rngD 0 n)) | _ => False
  | .all => one ds fun d => ∃ bs : List Bool, d = .lst (bs.map D.bl) ∧ K (.bl (bs.all id))
  | .any => one ds fun d => ∃ bs : List Bool, d = .lst (bs.map D.bl) ∧ K (.bl (bs.any id))
  | .bitlen => one ds fun d => match d with | .int i => K (.int (Builtin.Int.intBits i : Nat)) | _ => False
  | .repr => False
  | .sset => one ds fun d => ∃ (ps : List (List Int)) (n : Nat) (M : Int), d = .lst (ps.map fun p => D.tup (p.map D.int)) ∧ ps.length < 64 ∧ 1 ≤ n ∧ (∀ p ∈ ps, p.length = n ∧ TS.Bd M p) ∧
      ∀ qs : List (List Int), qs.Nodup → (∀ q, q ∈ qs ↔ q ∈ ps) → qs.Pairwise (fun q r => TS.code M q ≤ TS.code M r) → K (.lst (qs.map fun p => D.tup (p.map D.int)))

/-! ### places -/
def atD (x i : D) (K : D → Prop) : Prop := match i with
  | .int i => match x with
    | .lst xs => bnd (L2.atI xs i) K
    | .tup xs => bnd (L2.atI xs i) K
    | .str z => z.length ≤ LIM ∧ bnd (L2.atI z.cps.toList i) fun c => K (.str ⟨#[c]⟩)
    | _ => False
  | _ => False
/-- an end of a slice -/
def partD (ab : Bool) (d : D) (K : Option Int → Prop) : Prop := match ab with
  | true => K none
  | false => match d with | .int i => K (some i) | _ => False
def cutD (xs : List D) (lo hi : Option Int) : List D := (xs.drop (HT.sIx xs.length 0 lo)).take (HT.sIx xs.length xs.length hi - HT.sIx xs.length 0 lo)
def sliD (x : D) (lo hi : Option Int) (K : D → Prop) : Prop := match x with
  | .lst xs => K (.lst (cutD xs lo hi))
  | .tup xs => K (.tup (cutD xs lo hi))
  | .str z => z.length ≤ LIM ∧ K (.str (L2.cutS z lo hi))
  | _ => False
def revD (x : D) (K : D → Prop) : Prop := match x with
  | .lst xs => K (.lst xs.reverse)
  | .tup xs => K (.tup xs.reverse)
  | _ => False
/-- xs with d at the place i -/
def setAt (xs : List D) (i : Int) (d : D) : Option (List D) := (L2.ixN xs.length i).map fun j => xs.set j d

/-! ### what a loop walks -/
inductive IK where
  | seq | rng | enm | zip | rev
  deriving DecidableEq
def enumD : Nat → List D → List D
  | _, [] => []
  | n, x :: xs => .tup [.int (n : Int), x] :: enumD (n + 1) xs
def zipD : List D → List D → List D
  | [], _ => []
  | x :: xs, ys => match ys with | [] => [] | y :: ys => .tup [x, y] :: zipD xs ys
def rngOk (i : Int) : Prop := -1000000 ≤ i ∧ i ≤ 1000000
def iterD (k : IK) (ds : List D) (K : List D → Prop) : Prop := match k with
  | .seq => one ds fun d => match d with
    | .lst xs => K xs
    | .tup xs => K xs
    | .str z => z.length ≤ LIM ∧ K (z.cps.toList.map fun c => D.str ⟨#[c]⟩)
    | _ => False
  | .rng => match ds with
    | [.int n] => rngOk n ∧ K (rngD 0 n)
    | [.int a, .int b] => (rngOk a ∧ rngOk b) ∧ K (rngD a b)
    | [.int a, .int b, .int c] => (rngOk a ∧ rngOk b ∧ c = -1) ∧ K ((rngD (b + 1) (a + 1)).reverse)
    | _ => False
  | .enm => one ds fun d => bnd (itemsOf d) fun xs => K (enumD 0 xs)
  | .zip => match ds with
    | [.lst xs, .lst ys] => K (zipD xs ys)
    | [.tup xs, .tup ys] => K (zipD xs ys)
    | _ => False
  | .rev => one ds fun d => bnd (itemsOf d) fun xs => K xs.reverse

/-! ### targets -/
inductive Tg where
  | nm (i : Nat) | tp (ts : List Tg)
mutual
def bindT : Tg → D → List Sl → Option (List Sl)
  | .nm i, d, σ => some (σ.set i (.va d))
  | .tp ts, d, σ => match d with | .tup ds => bindTs ts ds σ | .lst ds => bindTs ts ds σ | _ => none
def bindTs : List Tg → List D → List Sl → Option (List Sl)
  | [], ds, σ => match ds with | [] => some σ | _ :: _ => none
  | t :: ts, ds, σ => match ds with | [] => none | d :: ds => match bindT t d σ with | some σ' => bindTs ts ds σ' | none => none
end
/-- as a slot of its own -/
def ownS (d : D) : Option Sl := match d with
  | .lst xs => some (.ow xs)
  | .dic ks vs => some (.od ks vs)
  | _ => none
/-- several names at once; true: the value is new, and the name's own -/
def parT : List (Nat × Bool) → List D → List Sl → Option (List Sl)
  | [], ds, σ => match ds with | [] => some σ | _ :: _ => none
  | (i, o) :: ts, ds, σ => match ds with
    | [] => none
    | d :: ds => match o with
      | false => parT ts ds (σ.set i (.va d))
      | true => match ownS d with | some s => parT ts ds (σ.set i s) | none => none

/-! ### the language -/
inductive E where
  | var (i : Nat) | bor (i : Nat) | int (i : Int) | bl (b : Bool) | non | str (x : Str) | glb (x : Nat) (i : Int)
  | bin (o : BOp) (a b : E) | neg (a : E)
  | cmp (o : COp) (a b : E) | chn (o p : COp) (a b c : E)
  | nt (a : E) | an (a b : E) | or (a b : E) | ite (c a b : E)
  | tup (es : List E) | lst (es : List E)
  | idx (a i : E) | slc (a lo hi : E) | rvs (a : E)
  | call (f : Nat) (es : List E) | calk (f : Nat) (es : List E) (perm : List Nat)
  | bi (b : BI) (es : List E) | isi (t : Ty) (a : E)
  | lc (k : IK) (es : List E) (tg : Tg) (own : List Nat) (c el : E)
  | lc2 (k : IK) (es : List E) (tg : Tg) (own : List Nat) (c : E) (k1 : IK) (es1 : List E) (tg1 : Tg) (own1 : List Nat) (c1 el : E)
  | bget (j : Nat) (a : E) | bemp (a : E)
/-- a slice's part that is not written -/
def absE : E → Bool
  | .non => true
  | _ => false
inductive S where
  | asg (i : Nat) (e : E) | asgO (i : Nat) (e : E) | unp (t : Tg) (e : E) | par (ts : List (Nat × Bool)) (es : List E)
  | app (i : Nat) (e : E) | ext (i : Nat) (e : E) | seti (i : Nat) (k e : E)
  | ex (e : E)
  | ite (c : E) (a b : List S) | fr (tg : Tg) (k : IK) (es : List E) (b : List S) | whl (c : E) (b : List S)
  | ret (e : E) | retN | brk | cnt | pas | nvr
  | frz (is : List Nat) | mov (i j : Nat)
  | bpop (i j : Nat) | bset (j q : Nat) (e : E)

/-- a def's meaning: arguments, the bag, what is wanted of the value and the bag -/
abbrev Sm := List D → Bag → (D → Bag → Prop) → Prop
abbrev Gm := Nat → Sm
def bad : Sm := fun _ _ _ => False
def permD (ds : List D) : List Nat → List D
  | [] => []
  | j :: js => ds.getD j .non :: permD ds js

/-! ### the meaning -/
/-- a comprehension's turns -/
def lcL (f : D → Bag → (List D → Bag → Prop) → Prop) : List D → Bag → (List D → Bag → Prop) → Prop
  | [], B, Q => Q [] B
  | x :: xs, B, Q => f x B fun a B1 => lcL f xs B1 fun r B2 => Q (a ++ r) B2
mutual
def wpE (Γ : Gm) : E → List Sl → Bag → (D → Bag → Prop) → Prop
  | .var i, σ, B, Q => bnd (getV σ i) fun d => Q d B
  | .bor i, σ, B, Q => bnd (getB σ i) fun d => Q d B
  | .int i, _, B, Q => Q (.int i) B
  | .bl b, _, B, Q => Q (.bl b) B
  | .non, _, B, Q => Q .non B
  | .str x, _, B, Q => Q (.str x) B
  | .glb _ i, _, B, Q => Q (.int i) B
  | .bin o a b, σ, B, Q => wpE Γ a σ B fun x B1 => wpE Γ b σ B1 fun y B2 => binD o x y fun d => Q d B2
  | .neg a, σ, B, Q => wpE Γ a σ B fun x B1 => match x with | .int i => Q (.int (-i)) B1 | _ => False
  | .cmp o a b, σ, B, Q => wpE Γ a σ B fun x B1 => wpE Γ b σ B1 fun y B2 => cmpD o x y fun t => Q (.bl t) B2
  | .chn o p a b c, σ, B, Q => wpE Γ a σ B fun x B1 => wpE Γ b σ B1 fun y B2 => cmpD o x y fun t =>
      if t = true then wpE Γ c σ B2 fun z B3 => cmpD p y z fun t => Q (.bl t) B3 else Q (.bl false) B2
  | .nt a, σ, B, Q => wpE Γ a σ B fun x B1 => tst x fun t => Q (.bl (!t)) B1
  | .an a b, σ, B, Q => wpE Γ a σ B fun x B1 => tst x fun t => if t = true then wpE Γ b σ B1 (fun y B2 => tst y fun t => Q (.bl t) B2) else Q (.bl false) B1
  | .or a b, σ, B, Q => wpE Γ a σ B fun x B1 => tst x fun t => if t = true then Q (.bl true) B1 else wpE Γ b σ B1 (fun y B2 => tst y fun t => Q (.bl t) B2)
  | .ite c a b, σ, B, Q => wpE Γ c σ B fun x B1 => tst x fun t => if t = true then wpE Γ a σ B1 Q else wpE Γ b σ B1 Q
  | .tup es, σ, B, Q => wpEs Γ es σ B fun ds B1 => Q (.tup ds) B1
  | .lst es, σ, B, Q => wpEs Γ es σ B fun ds B1 => Q (.lst ds) B1
  | .idx a i, σ, B, Q => wpE Γ a σ B fun x B1 => wpE Γ i σ B1 fun y B2 => atD x y fun d => Q d B2
  | .slc a lo hi, σ, B, Q => wpE Γ a σ B fun x B1 => wpE Γ lo σ B1 fun l B2 => partD (absE lo) l fun lo => wpE Γ hi σ B2 fun h B3 => partD (absE hi) h fun hi => sliD x lo hi fun d => Q d B3
  | .rvs a, σ, B, Q => wpE Γ a σ B fun x B1 => revD x fun d => Q d B1
  | .call f es, σ, B, Q => wpEs Γ es σ B fun ds B1 => Γ f ds B1 Q
  | .calk f es perm, σ, B, Q => wpEs Γ es σ B fun ds B1 => Γ f (permD ds perm) B1 Q
  | .bi b es, σ, B, Q => wpEs Γ es σ B fun ds B1 => biD b ds fun d => Q d B1
  | .isi t a, σ, B, Q => wpE Γ a σ B fun x B1 => Q (.bl (isTy t x)) B1
  | .lc k es tg own c el, σ, B, Q => wpEs Γ es σ B fun ds B1 => iterD k ds fun xs =>
      lcL (fun x B K => bnd (bindT tg x (wipeS σ own)) fun σ' => wpE Γ c σ' B fun t B2 => tst t fun t =>
        if t = true then wpE Γ el σ' B2 fun d B3 => K [d] B3 else K [] B2) xs B1 fun r B2 => Q (.lst r) B2
  | .lc2 k es tg own c k1 es1 tg1 own1 c1 el, σ, B, Q => wpEs Γ es σ B fun ds B1 => iterD k ds fun xs =>
      lcL (fun x B K => bnd (bindT tg x (wipeS σ own)) fun σ' => wpE Γ c σ' B fun t B2 => tst t fun t =>
        if t = true then wpEs Γ es1 σ' B2 fun ds1 B3 => iterD k1 ds1 fun xs1 =>
          lcL (fun x B K => bnd (bindT tg1 x (wipeS σ' own1)) fun σ2 => wpE Γ c1 σ2 B fun t B2 => tst t fun t =>
            if t = true then wpE Γ el σ2 B2 fun d B3 => K [d] B3 else K [] B2) xs1 B3 K
        else K [] B2) xs B1 fun r B2 => Q (.lst r) B2
  | .bget j a, σ, B, Q => wpE Γ a σ B fun x B1 => match x with | .bag => Q (.int (if j = 1 then B1.b else B1.m)) B1 | _ => False
  | .bemp a, σ, B, Q => wpE Γ a σ B fun x B1 => match x with | .bag => Q (.bl B1.cells.isEmpty) B1 | _ => False
def wpEs (Γ : Gm) : List E → List Sl → Bag → (List D → Bag → Prop) → Prop
  | [], _, B, Q => Q [] B
  | e :: es, σ, B, Q => wpE Γ e σ B fun d B1 => wpEs Γ es σ B1 fun ds B2 => Q (d :: ds) B2
end
/-- what is wanted behind a statement -/
structure Pst where
  nx : List Sl → Bag → Prop
  rt : D → Bag → Prop
  bk : List Sl → Bag → Prop
  ct : List Sl → Bag → Prop
/-- a loop's turns -/
def loopL (f : D → Pst → List Sl → Bag → Prop) : List D → Pst → List Sl → Bag → Prop
  | [], P, σ, B => P.nx σ B
  | x :: xs, P, σ, B => f x ⟨loopL f xs P, P.rt, P.nx, loopL f xs P⟩ σ B
def whileN (c : List Sl → Bag → (Bool → Bag → Prop) → Prop) (b : Pst → List Sl → Bag → Prop) : Nat → Pst → List Sl → Bag → Prop
  | 0, _, _, _ => False
  | n + 1, P, σ, B => c σ B fun t B1 => if t = true then b ⟨whileN c b n P, P.rt, P.nx, whileN c b n P⟩ σ B1 else P.nx σ B1
mutual
def wpS (Γ : Gm) : S → Pst → List Sl → Bag → Prop
  | .asg i e, P, σ, B => wpE Γ e σ B fun d B1 => P.nx (σ.set i (.va d)) B1
  | .asgO i e, P, σ, B => wpE Γ e σ B fun d B1 => bnd (ownS d) fun s => P.nx (σ.set i s) B1
  | .unp t e, P, σ, B => wpE Γ e σ B fun d B1 => bnd (bindT t d σ) fun σ' => P.nx σ' B1
  | .par ts es, P, σ, B => wpEs Γ es σ B fun ds B1 => bnd (parT ts ds σ) fun σ' => P.nx σ' B1
  | .app i e, P, σ, B => bnd (getO σ i) fun xs => wpE Γ e σ B fun d B1 => xs.length < LIM ∧ P.nx (σ.set i (.ow (xs ++ [d]))) B1
  | .ext i e, P, σ, B => bnd (getO σ i) fun xs => wpE Γ e σ B fun d B1 => match d with
      | .lst ys => xs.length + ys.length ≤ LIM ∧ P.nx (σ.set i (.ow (xs ++ ys))) B1
      | _ => False
  | .seti i k e, P, σ, B => bnd (getO σ i) fun xs => wpE Γ e σ B fun d B1 => wpE Γ k σ B1 fun kd B2 => match kd with
      | .int j => bnd (setAt xs j d) fun ys => P.nx (σ.set i (.ow ys)) B2
      | _ => False
  | .ex e, P, σ, B => wpE Γ e σ B fun _ B1 => P.nx σ B1
  | .ite c a b, P, σ, B => wpE Γ c σ B fun d B1 => tst d fun t => if t = true then wpSs Γ a P σ B1 else wpSs Γ b P σ B1
  | .fr tg k es b, P, σ, B => wpEs Γ es σ B fun ds B1 => iterD k ds fun xs => loopL (fun x P σ B => bnd (bindT tg x σ) fun σ' => wpSs Γ b P σ' B) xs P σ B1
  | .whl c b, P, σ, B => ∃ n, whileN (fun σ B K => wpE Γ c σ B fun d B1 => tst d fun t => K t B1) (wpSs Γ b) n P σ B
  | .ret e, P, σ, B => wpE Γ e σ B P.rt
  | .retN, P, _, B => P.rt .non B
  | .brk, P, σ, B => P.bk σ B
  | .cnt, P, σ, B => P.ct σ B
  | .pas, P, σ, B => P.nx σ B
  | .nvr, _, _, _ => False
  | .frz is, P, σ, B => P.nx (frzS σ is) B
  | .mov i j, P, σ, B => bnd (getO σ j) fun xs => P.nx ((σ.set j .no).set i (.ow xs)) B
  | .bpop i j, P, σ, B => bnd (getV σ j) fun x => match x with | .bag => bnd B.cells.getLast? fun c => P.nx (σ.set i (.va (.int c))) { B with cells := B.cells.dropLast } | _ => False
  | .bset j q e, P, σ, B => bnd (getV σ j) fun x => match x with
      | .bag => wpE Γ e σ B fun d B1 => match d with
        | .int v => ∃ B2 : Bag, B2.cells = B1.cells ∧ B2.b = (if q = 1 then v else B1.b) ∧ B2.m = (if q = 1 then B1.m else v) ∧ P.nx σ B2
        | _ => False
      | _ => False
def wpSs (Γ : Gm) : List S → Pst → List Sl → Bag → Prop
  | [], P, σ, B => P.nx σ B
  | s :: ss, P, σ, B => wpS Γ s ⟨wpSs Γ ss P, P.rt, P.bk, P.ct⟩ σ B
end
/-- a def's body: n slots -/
def wpFn (Γ : Gm) (n : Nat) (ss : List S) : Sm := fun ds B Q =>
  wpSs Γ ss ⟨fun _ B' => Q .non B', Q, fun _ _ => False, fun _ _ => False⟩ (ds.map Sl.va ++ List.replicate (n - ds.length) Sl.no) B
end TL


set_option autoImplicit true
/-! The tree layer, part 2: what is wanted may be weakened. -/
namespace TL
open PySem
section
variable {K K' : D → Prop} {x y : D}
theorem addD_mono (h : ∀ d, K d → K' d) (q : addD x y K) : addD x y K' := by
  cases x <;> cases y <;> first | exact h _ q | exact ⟨q.1, h _ q.2⟩ | exact q
theorem subD_mono (h : ∀ d, K d → K' d) (q : subD x y K) : subD x y K' := by
  cases x <;> cases y <;> first | exact h _ q | exact q
theorem mulD_mono (h : ∀ d, K d → K' d) (q : mulD x y K) : mulD x y K' := by
  cases x <;> cases y <;> first | exact ⟨q.1, h _ q.2⟩ | exact ⟨q.1, q.2.1, q.2.2.1, h _ q.2.2.2⟩ | exact q
theorem int2_mono {K K' : Int → Int → Prop} (h : ∀ i j, K i j → K' i j) (q : int2 x y K) : int2 x y K' := by
  cases x <;> cases y <;> first | exact h _ _ q | exact q
theorem binD_mono {o : BOp} (h : ∀ d, K d → K' d) (q : binD o x y K) : binD o x y K' := by
  cases o with
  | add => exact addD_mono h q
  | sub => exact subD_mono h q
  | mul => exact mulD_mono h q
  | fdiv => exact int2_mono (fun _ _ r => ⟨r.1, h _ r.2⟩) q
  | mod => exact int2_mono (fun _ _ r => ⟨r.1, h _ r.2⟩) q
  | pow => exact int2_mono (fun _ _ r => ⟨r.1, h _ r.2⟩) q
  | shl => exact int2_mono (fun _ _ r => ⟨r.1, h _ r.2⟩) q
  | shr => exact int2_mono (fun _ _ r => ⟨r.1, h _ r.2⟩) q
  | band => exact int2_mono (fun _ _ r => h _ r) q
  | bor => exact int2_mono (fun _ _ r => h _ r) q
  | bxor => exact int2_mono (fun _ _ r => h _ r) q
theorem ordD_mono {p : Int → Int → Bool} {r : Str → Str → Bool} {K K' : Bool → Prop} (h : ∀ d, K d → K' d) (q : ordD p r x y K) : ordD p r x y K' := by
  cases x <;> cases y <;> first | exact h _ q | exact q
theorem cmpD_mono {o : COp} {K K' : Bool → Prop} (h : ∀ d, K d → K' d) (q : cmpD o x y K) : cmpD o x y K' := by
  cases o with
  | lt => exact ordD_mono h q
  | le => exact ordD_mono h q
  | gt => exact ordD_mono h q
  | ge => exact ordD_mono h q
  | eq => exact ⟨q.1, h _ q.2⟩
  | ne => exact ⟨q.1, h _ q.2⟩
  | isN => cases y <;> first | exact h _ q | exact q
  | isnN => cases y <;> first | exact h _ q | exact q
  | isB => exact tst_mono (fun _ r => tst_mono (fun _ s => h _ s) r) q
  | isnB => exact tst_mono (fun _ r => tst_mono (fun _ s => h _ s) r) q
  | inn => exact bnd_mono (fun _ r => ⟨r.1, h _ r.2⟩) q
  | nin => exact bnd_mono (fun _ r => ⟨r.1, h _ r.2⟩) q
theorem one_mono {ds : List D} (h : ∀ d, K d → K' d) (q : one ds K) : one ds K' := by
  match ds, q with
  | [d], q => exact h d q
theorem extD_mono {f : Int → Int → Int} {g : List Int → Int} {ds : List D} (h : ∀ d, K d → K' d) (q : extD f g ds K) : extD f g ds K' := by
  match ds, q with
  | [x], q => obtain ⟨ns, e, n, k⟩ := q; exact ⟨ns, e, n, h _ k⟩
  | [x, y], q => exact int2_mono (fun _ _ r => h _ r) q
theorem biD_mono {b : BI} {ds : List D} (h : ∀ d, K d → K' d) (q : biD b ds K) : biD b ds K' := by
  cases b with
  | len => exact one_mono (fun d r => by cases d <;> first | exact h _ r | exact ⟨r.1, h _ r.2⟩ | exact r) q
  | abs => exact one_mono (fun d r => by cases d <;> first | exact h _ r | exact r) q
  | max => exact extD_mono h q
  | min => exact extD_mono h q
  | sum => exact one_mono (fun _ r => bnd_mono (fun _ ⟨ns, e, s⟩ => ⟨ns, e, h _ s⟩) r) q
  | int => exact one_mono (fun d r => by cases d <;> first | exact h _ r | exact r) q
  | tuple => exact one_mono (fun _ r => bnd_mono (fun _ s => h _ s) r) q
  | list => exact one_mono (fun _ r => bnd_mono (fun _ s => h _ s) r) q
  | sorted => exact one_mono (fun _ ⟨ns, e, r⟩ => ⟨ns, e, fun ms p s => h _ (r ms p s)⟩) q
  | lrev => exact one_mono (fun _ r => bnd_mono (fun _ s => h _ s) r) q
  | trev => exact one_mono (fun _ r => bnd_mono (fun _ s => h _ s) r) q
  | lrange => exact one_mono (fun d r => by cases d <;> first | exact ⟨r.1, h _ r.2⟩ | exact r) q
  | trange => exact one_mono (fun d r => by cases d <;> first | exact ⟨r.1, h _ r.2⟩ | exact r) q
  | all => exact one_mono (fun _ ⟨ns, e, r⟩ => ⟨ns, e, h _ r⟩) q
  | any => exact one_mono (fun _ ⟨ns, e, r⟩ => ⟨ns, e, h _ r⟩) q
  | bitlen => exact one_mono (fun d r => by cases d <;> first | exact h _ r | exact r) q
  | repr => exact q
  | sset => exact one_mono (fun _ ⟨ps, n, M, e, l, n1, a, r⟩ => ⟨ps, n, M, e, l, n1, a, fun qs n p s => h _ (r qs n p s)⟩) q
theorem atD_mono (h : ∀ d, K d → K' d) (q : atD x y K) : atD x y K' := by
  cases y <;> first
    | exact q
    | (cases x <;> first
        | exact q
        | exact bnd_mono (fun _ r => h _ r) q
        | exact ⟨q.1, bnd_mono (fun _ r => h _ r) q.2⟩)
theorem partD_mono {a : Bool} {K K' : Option Int → Prop} (h : ∀ d, K d → K' d) (q : partD a x K) : partD a x K' := by
  cases a with
  | true => exact h _ q
  | false => cases x <;> first | exact h _ q | exact q
theorem sliD_mono {lo hi : Option Int} (h : ∀ d, K d → K' d) (q : sliD x lo hi K) : sliD x lo hi K' := by
  cases x <;> first | exact h _ q | exact ⟨q.1, h _ q.2⟩ | exact q
theorem revD_mono (h : ∀ d, K d → K' d) (q : revD x K) : revD x K' := by
  cases x <;> first | exact h _ q | exact q
theorem iterD_mono {k : IK} {ds : List D} {K K' : List D → Prop} (h : ∀ d, K d → K' d) (q : iterD k ds K) : iterD k ds K' := by
  cases k with
  | seq => exact one_mono (fun d r => by cases d <;> first | exact h _ r | exact ⟨r.1, h _ r.2⟩ | exact r) q
  | rng =>
    unfold iterD at q ⊢
    dsimp only at q ⊢
    split at q
    · exact ⟨q.1, h _ q.2⟩
    · exact ⟨q.1, h _ q.2⟩
    · exact ⟨q.1, h _ q.2⟩
    · exact q.elim
  | enm => exact one_mono (fun _ r => bnd_mono (fun _ s => h _ s) r) q
  | zip =>
    unfold iterD at q ⊢
    dsimp only at q ⊢
    split at q
    · exact h _ q
    · exact h _ q
    · exact q.elim
  | rev => exact one_mono (fun _ r => bnd_mono (fun _ s => h _ s) r) q
end
/-- each def's meaning may be weakened -/
def GMono (Γ : Gm) : Prop := ∀ (f : Nat) (ds : List D) (B : Bag) (Q Q' : D → Bag → Prop), (∀ d B, Q d B → Q' d B) → Γ f ds B Q → Γ f ds B Q'
theorem lcL_mono {f f' : D → Bag → (List D → Bag → Prop) → Prop} (hf : ∀ x B (K K' : List D → Bag → Prop), (∀ r B, K r B → K' r B) → f x B K → f' x B K') :
    ∀ (xs : List D) (B : Bag) (Q Q' : List D → Bag → Prop), (∀ r B, Q r B → Q' r B) → lcL f xs B Q → lcL f' xs B Q'
  | [], _, _, _, h, q => h _ _ q
  | x :: xs, B, Q, Q', h, q => hf x B _ _ (fun a B1 r => lcL_mono hf xs B1 _ _ (fun _ _ s => h _ _ s) r) q
variable {Γ : Gm}
mutual
theorem wpE_mono (G : GMono Γ) : ∀ (e : E) (σ : List Sl) (B : Bag) (Q Q' : D → Bag → Prop), (∀ d B, Q d B → Q' d B) → wpE Γ e σ B Q → wpE Γ e σ B Q'
  | .var i, σ, B, Q, Q', h, q => bnd_mono (fun _ r => h _ _ r) q
  | .bor i, σ, B, Q, Q', h, q => bnd_mono (fun _ r => h _ _ r) q
  | .int i, σ, B, Q, Q', h, q => h _ _ q
  | .bl i, σ, B, Q, Q', h, q => h _ _ q
  | .non, σ, B, Q, Q', h, q => h _ _ q
  | .str i, σ, B, Q, Q', h, q => h _ _ q
  | .glb _ i, σ, B, Q, Q', h, q => h _ _ q
  | .bin o a b, σ, B, Q, Q', h, q => wpE_mono G a _ _ _ _ (fun _ _ r => wpE_mono G b _ _ _ _ (fun _ _ s => binD_mono (fun _ t => h _ _ t) s) r) q
  | .neg a, σ, B, Q, Q', h, q => wpE_mono G a _ _ _ _ (fun d _ r => by cases d <;> first | exact h _ _ r | exact r) q
  | .cmp o a b, σ, B, Q, Q', h, q => wpE_mono G a _ _ _ _ (fun _ _ r => wpE_mono G b _ _ _ _ (fun _ _ s => cmpD_mono (fun _ t => h _ _ t) s) r) q
  | .chn o p a b c, σ, B, Q, Q', h, q => wpE_mono G a _ _ _ _ (fun _ _ r => wpE_mono G b _ _ _ _ (fun _ _ s => cmpD_mono (fun t u => by
      cases t with
      | true => exact wpE_mono G c _ _ _ _ (fun _ _ v => cmpD_mono (fun _ w => h _ _ w) v) u
      | false => exact h _ _ u) s) r) q
  | .nt a, σ, B, Q, Q', h, q => wpE_mono G a _ _ _ _ (fun _ _ r => tst_mono (fun _ s => h _ _ s) r) q
  | .an a b, σ, B, Q, Q', h, q => wpE_mono G a _ _ _ _ (fun _ _ r => tst_mono (fun t s => by
      cases t with
      | true => exact wpE_mono G b _ _ _ _ (fun _ _ v => tst_mono (fun _ w => h _ _ w) v) s
      | false => exact h _ _ s) r) q
  | .or a b, σ, B, Q, Q', h, q => wpE_mono G a _ _ _ _ (fun _ _ r => tst_mono (fun t s => by
      cases t with
      | false => exact wpE_mono G b _ _ _ _ (fun _ _ v => tst_mono (fun _ w => h _ _ w) v) s
      | true => exact h _ _ s) r) q
  | .ite c a b, σ, B, Q, Q', h, q => wpE_mono G c _ _ _ _ (fun _ _ r => tst_mono (fun t s => by
      cases t with
      | true => exact wpE_mono G a _ _ _ _ h s
      | false => exact wpE_mono G b _ _ _ _ h s) r) q
  | .tup es, σ, B, Q, Q', h, q => wpEs_mono G es _ _ _ _ (fun _ _ r => h _ _ r) q
  | .lst es, σ, B, Q, Q', h, q => wpEs_mono G es _ _ _ _ (fun _ _ r => h _ _ r) q
  | .idx a i, σ, B, Q, Q', h, q => wpE_mono G a _ _ _ _ (fun _ _ r => wpE_mono G i _ _ _ _ (fun _ _ s => atD_mono (fun _ t => h _ _ t) s) r) q
  | .slc a lo hi, σ, B, Q, Q', h, q => wpE_mono G a _ _ _ _ (fun _ _ r => wpE_mono G lo _ _ _ _ (fun _ _ s => partD_mono (fun _ s => wpE_mono G hi _ _ _ _ (fun _ _ u => partD_mono (fun _ u => sliD_mono (fun _ t => h _ _ t) u) u) s) s) r) q
  | .rvs a, σ, B, Q, Q', h, q => wpE_mono G a _ _ _ _ (fun _ _ r => revD_mono (fun _ t => h _ _ t) r) q
  | .call f es, σ, B, Q, Q', h, q => wpEs_mono G es _ _ _ _ (fun _ _ r => G _ _ _ _ _ h r) q
  | .calk f es p, σ, B, Q, Q', h, q => wpEs_mono G es _ _ _ _ (fun _ _ r => G _ _ _ _ _ h r) q
  | .bi b es, σ, B, Q, Q', h, q => wpEs_mono G es _ _ _ _ (fun _ _ r => biD_mono (fun _ s => h _ _ s) r) q
  | .isi t a, σ, B, Q, Q', h, q => wpE_mono G a _ _ _ _ (fun _ _ r => h _ _ r) q
  | .lc k es tg own c el, σ, B, Q, Q', h, q => wpEs_mono G es _ _ _ _ (fun _ _ r => iterD_mono (fun _ s =>
      lcL_mono (fun x B K K' hk u => bnd_mono (fun _ v => wpE_mono G c _ _ _ _ (fun _ _ w => tst_mono (fun t y => by
        cases t with
        | true => exact wpE_mono G el _ _ _ _ (fun _ _ z => hk _ _ z) y
        | false => exact hk _ _ y) w) v) u) _ _ _ _ (fun _ _ u => h _ _ u) s) r) q
  | .lc2 k es tg own c k1 es1 tg1 own1 c1 el, σ, B, Q, Q', h, q => wpEs_mono G es _ _ _ _ (fun _ _ r => iterD_mono (fun _ s =>
      lcL_mono (fun x B K K' hk u => bnd_mono (fun _ v => wpE_mono G c _ _ _ _ (fun _ _ w => tst_mono (fun t y => by
        cases t with
        | true => exact wpEs_mono G es1 _ _ _ _ (fun _ _ r => iterD_mono (fun _ s =>
            lcL_mono (fun x B K K' hk u => bnd_mono (fun _ v => wpE_mono G c1 _ _ _ _ (fun _ _ w => tst_mono (fun t y => by
              cases t with
              | true => exact wpE_mono G el _ _ _ _ (fun _ _ z => hk _ _ z) y
              | false => exact hk _ _ y) w) v) u) _ _ _ _ (fun _ _ u => hk _ _ u) s) r) y
        | false => exact hk _ _ y) w) v) u) _ _ _ _ (fun _ _ u => h _ _ u) s) r) q
  | .bget j a, σ, B, Q, Q', h, q => wpE_mono G a _ _ _ _ (fun d _ r => by cases d <;> first | exact h _ _ r | exact r) q
  | .bemp a, σ, B, Q, Q', h, q => wpE_mono G a _ _ _ _ (fun d _ r => by cases d <;> first | exact h _ _ r | exact r) q
theorem wpEs_mono (G : GMono Γ) : ∀ (es : List E) (σ : List Sl) (B : Bag) (Q Q' : List D → Bag → Prop), (∀ d B, Q d B → Q' d B) → wpEs Γ es σ B Q → wpEs Γ es σ B Q'
  | [], σ, B, Q, Q', h, q => h _ _ q
  | e :: es, σ, B, Q, Q', h, q => wpE_mono G e _ _ _ _ (fun _ _ r => wpEs_mono G es _ _ _ _ (fun _ _ s => h _ _ s) r) q
end
/-- each end is weaker -/
structure Pst.Le (P P' : Pst) : Prop where
  nx : ∀ σ B, P.nx σ B → P'.nx σ B
  rt : ∀ d B, P.rt d B → P'.rt d B
  bk : ∀ σ B, P.bk σ B → P'.bk σ B
  ct : ∀ σ B, P.ct σ B → P'.ct σ B
theorem loopL_mono {f f' : D → Pst → List Sl → Bag → Prop} (hf : ∀ x (P P' : Pst) σ B, P.Le P' → f x P σ B → f' x P' σ B) :
    ∀ (xs : List D) (P P' : Pst) (σ : List Sl) (B : Bag), P.Le P' → loopL f xs P σ B → loopL f' xs P' σ B
  | [], P, P', σ, B, h, q => h.nx _ _ q
  | x :: xs, P, P', σ, B, h, q => hf x ⟨loopL f xs P, P.rt, P.nx, loopL f xs P⟩ ⟨loopL f' xs P', P'.rt, P'.nx, loopL f' xs P'⟩ σ B ⟨fun σ B r => loopL_mono hf xs P P' σ B h r, h.rt, h.nx, fun σ B r => loopL_mono hf xs P P' σ B h r⟩ q
theorem whileN_mono {c c' : List Sl → Bag → (Bool → Bag → Prop) → Prop} {b b' : Pst → List Sl → Bag → Prop} (hc : ∀ σ B (K K' : Bool → Bag → Prop), (∀ t B, K t B → K' t B) → c σ B K → c' σ B K')
    (hb : ∀ (P P' : Pst) σ B, P.Le P' → b P σ B → b' P' σ B) : ∀ (n : Nat) (P P' : Pst) (σ : List Sl) (B : Bag), P.Le P' → whileN c b n P σ B → whileN c' b' n P' σ B
  | 0, _, _, _, _, _, q => q.elim
  | n + 1, P, P', σ, B, h, q => hc σ B _ _ (fun t B1 r => by
      cases t with
      | true => exact hb ⟨whileN c b n P, P.rt, P.nx, whileN c b n P⟩ ⟨whileN c' b' n P', P'.rt, P'.nx, whileN c' b' n P'⟩ _ _ ⟨fun σ B r => whileN_mono hc hb n P P' σ B h r, h.rt, h.nx, fun σ B r => whileN_mono hc hb n P P' σ B h r⟩ r
      | false => exact h.nx _ _ r) q
mutual
theorem wpS_mono (G : GMono Γ) : ∀ (s : S) (P P' : Pst) (σ : List Sl) (B : Bag), P.Le P' → wpS Γ s P σ B → wpS Γ s P' σ B
  | .asg i e, P, P', σ, B, h, q => wpE_mono G e _ _ _ _ (fun _ _ r => h.nx _ _ r) q
  | .asgO i e, P, P', σ, B, h, q => wpE_mono G e _ _ _ _ (fun _ _ r => bnd_mono (fun _ s => h.nx _ _ s) r) q
  | .unp t e, P, P', σ, B, h, q => wpE_mono G e _ _ _ _ (fun _ _ r => bnd_mono (fun _ s => h.nx _ _ s) r) q
  | .par ts es, P, P', σ, B, h, q => wpEs_mono G es _ _ _ _ (fun _ _ r => bnd_mono (fun _ s => h.nx _ _ s) r) q
  | .app i e, P, P', σ, B, h, q => bnd_mono (fun _ q => wpE_mono G e _ _ _ _ (fun _ _ s => ⟨s.1, h.nx _ _ s.2⟩) q) q
  | .ext i e, P, P', σ, B, h, q => bnd_mono (fun _ q => wpE_mono G e _ _ _ _ (fun d _ r => by cases d <;> first | exact ⟨r.1, h.nx _ _ r.2⟩ | exact r) q) q
  | .seti i k e, P, P', σ, B, h, q => bnd_mono (fun _ q => wpE_mono G e _ _ _ _ (fun _ _ r => wpE_mono G k _ _ _ _ (fun d _ s => by
      cases d <;> first | exact bnd_mono (fun _ u => h.nx _ _ u) s | exact s) r) q) q
  | .ex e, P, P', σ, B, h, q => wpE_mono G e _ _ _ _ (fun _ _ r => h.nx _ _ r) q
  | .ite c a b, P, P', σ, B, h, q => wpE_mono G c _ _ _ _ (fun _ _ r => tst_mono (fun t s => by
      cases t with
      | true => exact wpSs_mono G a P P' _ _ h s
      | false => exact wpSs_mono G b P P' _ _ h s) r) q
  | .fr tg k es b, P, P', σ, B, h, q => wpEs_mono G es _ _ _ _ (fun _ _ r => iterD_mono (fun xs s => loopL_mono (fun x P P' σ B h u => bnd_mono (fun _ v => wpSs_mono G b P P' _ _ h v) u) xs P P' _ _ h s) r) q
  | .whl c b, P, P', σ, B, h, ⟨n, q⟩ => ⟨n, whileN_mono (fun σ B K K' hk u => wpE_mono G c _ _ _ _ (fun _ _ v => tst_mono (fun _ w => hk _ _ w) v) u) (fun P P' σ B h u => wpSs_mono G b P P' σ B h u) n P P' σ B h q⟩
  | .ret e, P, P', σ, B, h, q => wpE_mono G e _ _ _ _ h.rt q
  | .retN, P, P', σ, B, h, q => h.rt _ _ q
  | .brk, P, P', σ, B, h, q => h.bk _ _ q
  | .cnt, P, P', σ, B, h, q => h.ct _ _ q
  | .pas, P, P', σ, B, h, q => h.nx _ _ q
  | .nvr, P, P', σ, B, h, q => q
  | .frz is, P, P', σ, B, h, q => h.nx _ _ q
  | .mov i j, P, P', σ, B, h, q => bnd_mono (fun _ s => h.nx _ _ s) q
  | .bpop i j, P, P', σ, B, h, q => bnd_mono (fun d s => by cases d <;> first | exact bnd_mono (fun _ t => h.nx _ _ t) s | exact s) q
  | .bset j u e, P, P', σ, B, h, q => bnd_mono (fun d s => by
      cases d <;> first
        | exact s
        | exact wpE_mono G e _ _ _ _ (fun d _ t => by
            cases d <;> first
              | exact t
              | (obtain ⟨B2, h1, h2, h3, h4⟩ := t; exact ⟨B2, h1, h2, h3, h.nx _ _ h4⟩)) s) q
theorem wpSs_mono (G : GMono Γ) : ∀ (ss : List S) (P P' : Pst) (σ : List Sl) (B : Bag), P.Le P' → wpSs Γ ss P σ B → wpSs Γ ss P' σ B
  | [], P, P', σ, B, h, q => h.nx _ _ q
  | s :: ss, P, P', σ, B, h, q => wpS_mono G s ⟨wpSs Γ ss P, P.rt, P.bk, P.ct⟩ ⟨wpSs Γ ss P', P'.rt, P'.bk, P'.ct⟩ _ _ ⟨fun σ B r => wpSs_mono G ss P P' σ B h r, h.rt, h.bk, h.ct⟩ q
end
end TL


set_option autoImplicit false
/-! The tree layer, part 3: how trees lie in the abstract heap; the state's relation. -/
namespace TL
open PySem PySem.Spec PyProof.Rows L2

def keyD : L2.Key → D
  | .inl i => .int i
  | .inr x => .str x
/-- a dict with these keys and values stands at a -/
def DicAt (H : Hp) (a : Addr) (ks : List D) (ws : List V) : Prop :=
  (∃ kk : List L2.Key, ks = kk.map keyD ∧ kk.length = ws.length ∧ H a = some (.dK (kk.zip ws))) ∨
  (∃ kk : List (List L2.Key), ks = kk.map (fun l => D.tup (l.map keyD)) ∧ kk.length = ws.length ∧ H a = some (.dT (kk.zip ws)))
mutual
def Rep (z : Addr → Prop) (a0 : Addr) (H : Hp) : D → V → Prop
  | .non, v => v = .non
  | .bl b, v => v = .bl b
  | .int i, v => v = .int i
  | .str x, v => v = .str x
  | .tup ds, v => ∃ a vs, v = .ref a ∧ H a = some (.tup vs) ∧ Reps z a0 H ds vs
  | .lst ds, v => ∃ a vs, v = .ref a ∧ z a ∧ H a = some (.lst vs) ∧ Reps z a0 H ds vs
  | .dic ks ds, v => ∃ a vs, v = .ref a ∧ z a ∧ DicAt H a ks vs ∧ Reps z a0 H ds vs
  | .bag, v => v = .ref a0
def Reps (z : Addr → Prop) (a0 : Addr) (H : Hp) : List D → List V → Prop
  | [], vs => vs = []
  | d :: ds, vs => ∃ v r, vs = v :: r ∧ Rep z a0 H d v ∧ Reps z a0 H ds r
end
section
variable {z z' : Addr → Prop} {a0 : Addr} {H H' : Hp}
theorem Reps.nil : Reps z a0 H [] [] := by unfold Reps; rfl
theorem Reps.cons {d : D} {ds : List D} {v : V} {vs : List V} (h : Rep z a0 H d v) (r : Reps z a0 H ds vs) : Reps z a0 H (d :: ds) (v :: vs) := by
  unfold Reps
  exact ⟨v, vs, rfl, h, r⟩
theorem Reps.uncons {d : D} {ds : List D} {vs : List V} (h : Reps z a0 H (d :: ds) vs) : ∃ v r, vs = v :: r ∧ Rep z a0 H d v ∧ Reps z a0 H ds r := by
  unfold Reps at h
  exact h
theorem Reps.of_nil {vs : List V} (h : Reps z a0 H [] vs) : vs = [] := by
  unfold Reps at h
  exact h
theorem Reps.length : ∀ {ds : List D} {vs : List V}, Reps z a0 H ds vs → ds.length = vs.length
  | [], vs, h => by rw [h.of_nil]; rfl
  | d :: ds, vs, h => by
    obtain ⟨v, r, rfl, _, q⟩ := h.uncons
    simp [Reps.length q]
theorem Reps.get : ∀ {ds : List D} {vs : List V} {i : Nat} {d : D}, Reps z a0 H ds vs → ds[i]? = some d → ∃ v, vs[i]? = some v ∧ Rep z a0 H d v
  | [], _, _, _, _, e => by simp at e
  | d :: ds, vs, i, x, h, e => by
    obtain ⟨v, r, rfl, h1, q⟩ := h.uncons
    cases i with
    | zero => simp at e; subst e; exact ⟨v, rfl, h1⟩
    | succ i => simpa using Reps.get (i := i) q (by simpa using e)
theorem Reps.append : ∀ {ds es : List D} {vs ws : List V}, Reps z a0 H ds vs → Reps z a0 H es ws → Reps z a0 H (ds ++ es) (vs ++ ws)
  | [], es, vs, ws, h, q => by rw [h.of_nil]; exact q
  | d :: ds, es, vs, ws, h, q => by
    obtain ⟨v, r, rfl, h1, q1⟩ := h.uncons
    exact Reps.cons h1 (Reps.append q1 q)
theorem Reps.take : ∀ {ds : List D} {vs : List V} (n : Nat), Reps z a0 H ds vs → Reps z a0 H (ds.take n) (vs.take n)
  | _, _, 0, _ => by simpa using Reps.nil
  | [], vs, n + 1, h => by rw [h.of_nil]; simpa using Reps.nil
  | d :: ds, vs, n + 1, h => by
    obtain ⟨v, r, rfl, h1, q1⟩ := h.uncons
    simpa using Reps.cons h1 (Reps.take n q1)
theorem Reps.drop : ∀ {ds : List D} {vs : List V} (n : Nat), Reps z a0 H ds vs → Reps z a0 H (ds.drop n) (vs.drop n)
  | _, _, 0, h => by simpa using h
  | [], vs, n + 1, h => by rw [h.of_nil]; simpa using Reps.nil
  | d :: ds, vs, n + 1, h => by
    obtain ⟨v, r, rfl, h1, q1⟩ := h.uncons
    simpa using Reps.drop n q1
theorem Reps.reverse : ∀ {ds : List D} {vs : List V}, Reps z a0 H ds vs → Reps z a0 H ds.reverse vs.reverse
  | [], vs, h => by rw [h.of_nil]; simpa using Reps.nil
  | d :: ds, vs, h => by
    obtain ⟨v, r, rfl, h1, q1⟩ := h.uncons
    rw [List.reverse_cons, List.reverse_cons]
    exact Reps.append (Reps.reverse q1) (Reps.cons h1 Reps.nil)
theorem Reps.set : ∀ {ds : List D} {vs : List V} {d : D} {v : V} (i : Nat), Reps z a0 H ds vs → Rep z a0 H d v → Reps z a0 H (ds.set i d) (vs.set i v)
  | [], vs, d, v, i, h, _ => by rw [h.of_nil]; simpa using Reps.nil
  | e :: ds, vs, d, v, i, h, q => by
    obtain ⟨w, r, rfl, h1, q1⟩ := h.uncons
    cases i with
    | zero => exact Reps.cons q q1
    | succ i => exact Reps.cons h1 (Reps.set i q1 q)
theorem Reps.rep {ds : List D} {vs : List V} (h : Reps z a0 H ds vs) : ∀ n : Nat, Reps z a0 H (List.replicate n ds).flatten (List.replicate n vs).flatten
  | 0 => Reps.nil
  | n + 1 => by
    rw [List.replicate_succ, List.replicate_succ, List.flatten_cons, List.flatten_cons]
    exact h.append (h.rep n)
theorem Reps.ints : ∀ ns : List Int, Reps z a0 H (ns.map D.int) (ns.map V.int)
  | [] => Reps.nil
  | n :: ns => Reps.cons (show Rep z a0 H (.int n) (.int n) from by unfold Rep; rfl) (Reps.ints ns)
theorem Reps.of_ints : ∀ {ns : List Int} {vs : List V}, Reps z a0 H (ns.map D.int) vs → vs = ns.map V.int
  | [], vs, h => h.of_nil
  | n :: ns, vs, h => by
    obtain ⟨v, r, rfl, h1, q1⟩ := Reps.uncons (d := .int n) (ds := ns.map D.int) h
    unfold Rep at h1
    rw [h1, Reps.of_ints q1]
    rfl
theorem Reps.of_bls : ∀ {ns : List Bool} {vs : List V}, Reps z a0 H (ns.map D.bl) vs → vs = ns.map V.bl
  | [], vs, h => h.of_nil
  | n :: ns, vs, h => by
    obtain ⟨v, r, rfl, h1, q1⟩ := Reps.uncons (d := .bl n) (ds := ns.map D.bl) h
    unfold Rep at h1
    rw [h1, Reps.of_bls q1]
    rfl
theorem rep_non : Rep z a0 H .non .non := by unfold Rep; rfl
theorem rep_bl {b : Bool} : Rep z a0 H (.bl b) (.bl b) := by unfold Rep; rfl
theorem rep_int {i : Int} : Rep z a0 H (.int i) (.int i) := by unfold Rep; rfl
theorem rep_str {x : Str} : Rep z a0 H (.str x) (.str x) := by unfold Rep; rfl
theorem rep_tup {ds : List D} {a : Addr} {vs : List V} (h : H a = some (.tup vs)) (r : Reps z a0 H ds vs) : Rep z a0 H (.tup ds) (.ref a) := by
  unfold Rep
  exact ⟨a, vs, rfl, h, r⟩
theorem rep_lst {ds : List D} {a : Addr} {vs : List V} (hz : z a) (h : H a = some (.lst vs)) (r : Reps z a0 H ds vs) : Rep z a0 H (.lst ds) (.ref a) := by
  unfold Rep
  exact ⟨a, vs, rfl, hz, h, r⟩
theorem Rep.tup {ds : List D} {v : V} (h : Rep z a0 H (.tup ds) v) : ∃ a vs, v = .ref a ∧ H a = some (.tup vs) ∧ Reps z a0 H ds vs := by
  unfold Rep at h
  exact h
theorem Rep.lst {ds : List D} {v : V} (h : Rep z a0 H (.lst ds) v) : ∃ a vs, v = .ref a ∧ z a ∧ H a = some (.lst vs) ∧ Reps z a0 H ds vs := by
  unfold Rep at h
  exact h
theorem Rep.dic {ks ds : List D} {v : V} (h : Rep z a0 H (.dic ks ds) v) : ∃ a vs, v = .ref a ∧ z a ∧ DicAt H a ks vs ∧ Reps z a0 H ds vs := by
  unfold Rep at h
  exact h
theorem Rep.non {v : V} (h : Rep z a0 H .non v) : v = .non := by unfold Rep at h; exact h
theorem Rep.bl {b : Bool} {v : V} (h : Rep z a0 H (.bl b) v) : v = .bl b := by unfold Rep at h; exact h
theorem Rep.int {i : Int} {v : V} (h : Rep z a0 H (.int i) v) : v = .int i := by unfold Rep at h; exact h
theorem Rep.str {x : Str} {v : V} (h : Rep z a0 H (.str x) v) : v = .str x := by unfold Rep at h; exact h
theorem Rep.bag {v : V} (h : Rep z a0 H .bag v) : v = .ref a0 := by unfold Rep at h; exact h

theorem DicAt.keep {a : Addr} {ks : List D} {ws : List V} (h : DicAt H a ks ws) (k : ∀ o, H a = some o → H' a = some o) : DicAt H' a ks ws := by
  rcases h with ⟨kk, e, l, q⟩ | ⟨kk, e, l, q⟩
  · exact .inl ⟨kk, e, l, k _ q⟩
  · exact .inr ⟨kk, e, l, k _ q⟩
theorem DicAt.there {a : Addr} {ks : List D} {ws : List V} (h : DicAt H a ks ws) : ∃ o, H a = some o := by
  rcases h with ⟨kk, e, l, q⟩ | ⟨kk, e, l, q⟩
  · exact ⟨_, q⟩
  · exact ⟨_, q⟩
/-- frozen things and tuples stand -/
structure XS (z : Addr → Prop) (H : Hp) (z' : Addr → Prop) (H' : Hp) : Prop where
  zz : ∀ a, z a → z' a
  ex : ∀ a o, z a → H a = some o → H' a = some o
  tp : ∀ a xs, H a = some (.tup xs) → H' a = some (.tup xs)
theorem XS.refl : XS z H z H := ⟨fun _ h => h, fun _ _ _ h => h, fun _ _ h => h⟩
theorem XS.trans {z2 : Addr → Prop} {H2 : Hp} (a : XS z H z' H') (b : XS z' H' z2 H2) : XS z H z2 H2 :=
  ⟨fun x h => b.zz x (a.zz x h), fun x o h e => b.ex x o (a.zz x h) (a.ex x o h e), fun x xs e => b.tp x xs (a.tp x xs e)⟩
mutual
theorem Rep.stay (x : XS z H z' H') : ∀ {d : D} {v : V}, Rep z a0 H d v → Rep z' a0 H' d v
  | .non, v, h => by unfold Rep at h ⊢; exact h
  | .bl _, v, h => by unfold Rep at h ⊢; exact h
  | .int _, v, h => by unfold Rep at h ⊢; exact h
  | .str _, v, h => by unfold Rep at h ⊢; exact h
  | .bag, v, h => by unfold Rep at h ⊢; exact h
  | .tup ds, v, h => by
    obtain ⟨a, vs, rfl, e, r⟩ := h.tup
    exact rep_tup (x.tp _ _ e) (Reps.stay x r)
  | .lst ds, v, h => by
    obtain ⟨a, vs, rfl, hz, e, r⟩ := h.lst
    exact rep_lst (x.zz _ hz) (x.ex _ _ hz e) (Reps.stay x r)
  | .dic ks ds, v, h => by
    obtain ⟨a, vs, rfl, hz, e, r⟩ := h.dic
    unfold Rep
    exact ⟨a, vs, rfl, x.zz _ hz, e.keep fun o q => x.ex _ _ hz q, Reps.stay x r⟩
theorem Reps.stay (x : XS z H z' H') : ∀ {ds : List D} {vs : List V}, Reps z a0 H ds vs → Reps z' a0 H' ds vs
  | [], vs, h => by rw [h.of_nil]; exact Reps.nil
  | d :: ds, vs, h => by
    obtain ⟨v, r, rfl, h1, q⟩ := h.uncons
    exact Reps.cons (Rep.stay x h1) (Reps.stay x q)
end
end

/-- the bag stands, apart from what is frozen -/
structure WOk (a0 a1 : Addr) (z : Addr → Prop) (B : Bag) (H : Hp) : Prop where
  b0 : H a0 = some (.lst [.ref a1, .int B.b, .int B.m])
  b1 : H a1 = some (.lst (B.cells.map V.int))
  n0 : ¬ z a0
  n1 : ¬ z a1
  zt : ∀ a, z a → ∃ o, H a = some o
def BagAt (a0 a1 : Addr) (B : Bag) (H : Hp) : Prop := H a0 = some (.lst [.ref a1, .int B.b, .int B.m]) ∧ H a1 = some (.lst (B.cells.map V.int))
theorem BagAt.ne {a0 a1 : Addr} {B : Bag} {H : Hp} (h : BagAt a0 a1 B H) : a0 ≠ a1 := by
  intro e
  have h0 := h.1
  rw [e, h.2] at h0
  cases hc : B.cells with
  | nil => rw [hc] at h0; simp at h0
  | cons x r => rw [hc] at h0; simp at h0
theorem WOk.bag {a0 a1 : Addr} {z : Addr → Prop} {B : Bag} {H : Hp} (w : WOk a0 a1 z B H) : BagAt a0 a1 B H := ⟨w.b0, w.b1⟩
/-- what an expression does -/
structure XE (a0 a1 : Addr) (z : Addr → Prop) (H : Hp) (z' : Addr → Prop) (H' : Hp) : Prop where
  zz : ∀ a, z a → z' a
  zn : ∀ a, z' a → z a ∨ (H a = none ∧ ∃ o, H' a = some o)
  ex : ∀ a o, H a = some o → a ≠ a0 → a ≠ a1 → H' a = some o
  dm : ∀ a, H' a = none → H a = none
section
variable {a0 a1 : Addr} {z z' z2 : Addr → Prop} {H H' H2 : Hp} {B B' : Bag}
theorem XE.refl : XE a0 a1 z H z H := ⟨fun _ h => h, fun _ h => .inl h, fun _ _ h _ _ => h, fun _ h => h⟩
theorem XE.trans (x : XE a0 a1 z H z' H') (y : XE a0 a1 z' H' z2 H2) : XE a0 a1 z H z2 H2 where
  zz := fun a h => y.zz a (x.zz a h)
  zn := fun a h => by
    rcases y.zn a h with q | ⟨q, o, q2⟩
    · rcases x.zn a q with q | ⟨q, o, q2⟩
      · exact .inl q
      · refine .inr ⟨q, ?_⟩
        cases e : H2 a with
        | none => rw [y.dm a e] at q2; cases q2
        | some u => exact ⟨u, rfl⟩
    · exact .inr ⟨x.dm a q, o, q2⟩
  ex := fun a o h h0 h1 => y.ex a o (x.ex a o h h0 h1) h0 h1
  dm := fun a h => x.dm a (y.dm a h)
theorem XE.xs (x : XE a0 a1 z H z' H') (w : WOk a0 a1 z B H) : XS z H z' H' where
  zz := x.zz
  ex := fun a o hz h => x.ex a o h (fun e => w.n0 (e ▸ hz)) fun e => w.n1 (e ▸ hz)
  tp := fun a xs h => x.ex a _ h (fun e => by rw [e, w.b0] at h; cases h) fun e => by rw [e, w.b1] at h; cases h
theorem XE.wok (x : XE a0 a1 z H z' H') (w : WOk a0 a1 z B H) (b : BagAt a0 a1 B' H') : WOk a0 a1 z' B' H' where
  b0 := b.1
  b1 := b.2
  n0 := fun h => by
    rcases x.zn _ h with q | ⟨q, _⟩
    · exact w.n0 q
    · rw [w.b0] at q; cases q
  n1 := fun h => by
    rcases x.zn _ h with q | ⟨q, _⟩
    · exact w.n1 q
    · rw [w.b1] at q; cases q
  zt := fun a h => by
    rcases x.zn _ h with q | ⟨_, q⟩
    · obtain ⟨o, e⟩ := w.zt a q
      cases e2 : H' a with
      | none => rw [x.dm a e2] at e; cases e
      | some u => exact ⟨u, rfl⟩
    · exact q
/-- a new object -/
theorem XE.new {p : Addr} {o : HO} (n : H p = none) : XE a0 a1 z H z (upd H p o) where
  zz := fun _ h => h
  zn := fun _ h => .inl h
  ex := fun a u h _ _ => by rw [upd_ne (ne_of_none h n)]; exact h
  dm := fun a h => by
    by_cases e : a = p
    · rw [e]; exact n
    · rw [upd_ne e] at h; exact h
/-- .. frozen -/
theorem XE.newz {p : Addr} {o : HO} (n : H p = none) : XE a0 a1 z H (fun a => z a ∨ a = p) (upd H p o) where
  zz := fun _ h => .inl h
  zn := fun a h => by
    rcases h with h | h
    · exact .inl h
    · exact .inr ⟨h ▸ n, o, by rw [h]; exact upd_same⟩
  ex := (XE.new (z := z) (a0 := a0) (a1 := a1) n).ex
  dm := (XE.new (z := z) (a0 := a0) (a1 := a1) n).dm
theorem BagAt.new {p : Addr} {o : HO} (b : BagAt a0 a1 B H) (n : H p = none) : BagAt a0 a1 B (upd H p o) :=
  ⟨by rw [upd_ne (ne_of_none b.1 n)]; exact b.1, by rw [upd_ne (ne_of_none b.2 n)]; exact b.2⟩
end

/-! ### the state -/
structure Fr0 where
  a0 : Addr
  a1 : Addr
  H0 : Hp
  z0 : Addr → Prop
/-- an object of a name's own -/
structure OwnA (F : Fr0) (z : Addr → Prop) (p : Addr) : Prop where
  nz : ¬ z p
  n0 : p ≠ F.a0
  n1 : p ≠ F.a1
  nw : F.H0 p = none
def SlOk (F : Fr0) (z : Addr → Prop) (H : Hp) (s : Sl) (o : Option (Option V)) : Prop := match s with
  | .no => True
  | .va d => ∃ v, o = some (some v) ∧ Rep z F.a0 H d v
  | .ow xs => ∃ p vs, o = some (some (.ref p)) ∧ OwnA F z p ∧ H p = some (.lst vs) ∧ Reps z F.a0 H xs vs
  | .od ks ws => ∃ p vs, o = some (some (.ref p)) ∧ OwnA F z p ∧ DicAt H p ks vs ∧ Reps z F.a0 H ws vs
def isOwn : Sl → Bool
  | .ow _ => true
  | .od _ _ => true
  | _ => false
structure SR (F : Fr0) (z : Addr → Prop) (σa : List Sl) (B : Bag) (σ : L2.St) (H : Hp) : Prop where
  w : WOk F.a0 F.a1 z B H
  ext : ∀ a o, F.H0 a = some o → a ≠ F.a0 → a ≠ F.a1 → H a = some o
  dm : ∀ a, H a = none → F.H0 a = none
  zn : ∀ a, z a → F.z0 a ∨ F.H0 a = none
  zz : ∀ a, F.z0 a → z a
  len : σa.length = σ.length
  sl : ∀ (i : Nat) (s : Sl), σa[i]? = some s → SlOk F z H s (σ[i]?)
  inj : ∀ (i j : Nat) (s t : Sl) (p : Addr), σa[i]? = some s → σa[j]? = some t → isOwn s = true → isOwn t = true → σ[i]? = some (some (V.ref p)) → σ[j]? = some (some (V.ref p)) → i = j
section
variable {F : Fr0} {z z' : Addr → Prop} {σa : List Sl} {B B' : Bag} {σ : L2.St} {H H' : Hp}
theorem SlOk.own {s : Sl} {o : Option (Option V)} (h : SlOk F z H s o) (e : isOwn s = true) : ∃ p, o = some (some (.ref p)) ∧ OwnA F z p ∧ ∃ u, H p = some u := by
  cases s with
  | no => cases e
  | va d => cases e
  | ow xs => obtain ⟨p, vs, e1, h1, h2, h3⟩ := h; exact ⟨p, e1, h1, _, h2⟩
  | od ks ws => obtain ⟨p, vs, e1, h1, h2, h3⟩ := h; exact ⟨p, e1, h1, h2.there⟩
theorem SR.step (r : SR F z σa B σ H) (x : XE F.a0 F.a1 z H z' H') (b : BagAt F.a0 F.a1 B' H') : SR F z' σa B' σ H' where
  w := x.wok r.w b
  ext := fun a o h h0 h1 => x.ex a o (r.ext a o h h0 h1) h0 h1
  dm := fun a h => r.dm a (x.dm a h)
  zn := fun a h => by
    rcases x.zn a h with q | ⟨q, _⟩
    · exact r.zn a q
    · exact .inr (r.dm a q)
  zz := fun a h => x.zz a (r.zz a h)
  len := r.len
  sl := fun i s e => by
    have h := r.sl i s e
    cases s with
    | no => exact h
    | va d => obtain ⟨v, e1, h1⟩ := h; exact ⟨v, e1, h1.stay (x.xs r.w)⟩
    | ow xs =>
      obtain ⟨p, vs, e1, h1, h2, h3⟩ := h
      refine ⟨p, vs, e1, ⟨fun hz => ?_, h1.n0, h1.n1, h1.nw⟩, x.ex p _ h2 h1.n0 h1.n1, h3.stay (x.xs r.w)⟩
      rcases x.zn p hz with q | ⟨q, _⟩
      · exact h1.nz q
      · rw [h2] at q; cases q
    | od ks ws =>
      obtain ⟨p, vs, e1, h1, h2, h3⟩ := h
      refine ⟨p, vs, e1, ⟨fun hz => ?_, h1.n0, h1.n1, h1.nw⟩, h2.keep fun o q => x.ex p _ q h1.n0 h1.n1, h3.stay (x.xs r.w)⟩
      rcases x.zn p hz with q | ⟨q, _⟩
      · exact h1.nz q
      · obtain ⟨o, e2⟩ := h2.there
        rw [e2] at q; cases q
  inj := r.inj
theorem set_get {α : Type} {l : List α} {i j : Nat} {x y : α} (h : (l.set i x)[j]? = some y) : (j = i ∧ y = x) ∨ (j ≠ i ∧ l[j]? = some y) := by
  by_cases e : i = j
  · subst e
    by_cases hi : i < l.length
    · rw [List.getElem?_set_self hi] at h
      exact .inl ⟨rfl, (Option.some.inj h).symm⟩
    · rw [List.getElem?_eq_none (by simpa using hi)] at h; cases h
  · rw [List.getElem?_set_ne e] at h
    exact .inr ⟨fun q => e q.symm, h⟩
/-- a slot gets a new content -/
theorem SR.setS (r : SR F z σa B σ H) {i : Nat} {s : Sl} {v : V} (hs : SlOk F z H s (some (some v))) (hi : isOwn s = true → ∀ (j : Nat) (t : Sl) (p : Addr), v = .ref p → σa[j]? = some t → isOwn t = true → σ[j]? ≠ some (some (.ref p))) :
    SR F z (σa.set i s) B (σ.set i (some v)) H where
  w := r.w
  ext := r.ext
  dm := r.dm
  zn := r.zn
  zz := r.zz
  len := by rw [List.length_set, List.length_set]; exact r.len
  sl := fun j t e => by
    rcases set_get e with ⟨rfl, rfl⟩ | ⟨hj, e⟩
    · have hl : j < σ.length := by
        rw [← r.len]
        have := List.getElem?_eq_some_iff.mp e
        obtain ⟨h, _⟩ := this
        simpa using h
      rw [List.getElem?_set_self hl]
      exact hs
    · rw [List.getElem?_set_ne (Ne.symm hj)]
      exact r.sl j t e
  inj := fun j k t u p e1 e2 o1 o2 q1 q2 => by
    have len : ∀ {n : Nat}, (σ.set i (some v))[n]? = some (some (V.ref p)) → n = i → v = V.ref p := fun {n} q e => by
      subst e
      by_cases hl : n < σ.length
      · rw [List.getElem?_set_self hl] at q
        exact Option.some.inj (Option.some.inj q)
      · rw [List.getElem?_eq_none (by simpa using hl)] at q; cases q
    have old : ∀ {n : Nat}, (σ.set i (some v))[n]? = some (some (V.ref p)) → n ≠ i → σ[n]? = some (some (V.ref p)) := fun {n} q e => by
      rw [List.getElem?_set_ne (Ne.symm e)] at q
      exact q
    rcases set_get e1 with ⟨a1, a2⟩ | ⟨hj, f1⟩
    · rcases set_get e2 with ⟨b1, b2⟩ | ⟨hk, f2⟩
      · rw [a1, b1]
      · exact absurd (old q2 hk) (hi (by rw [← a2]; exact o1) k u p (len q1 a1) f2 o2)
    · rcases set_get e2 with ⟨b1, b2⟩ | ⟨hk, f2⟩
      · exact absurd (old q1 hj) (hi (by rw [← b2]; exact o2) j t p (len q2 b1) f1 o1)
      · exact r.inj j k t u p f1 f2 o1 o2 (old q1 hj) (old q2 hk)
theorem SR.setV (r : SR F z σa B σ H) {i : Nat} {d : D} {v : V} (h : Rep z F.a0 H d v) : SR F z (σa.set i (.va d)) B (σ.set i (some v)) H :=
  r.setS ⟨v, rfl, h⟩ fun e => nomatch e
/-- a slot's content, told less of -/
theorem SR.setA (r : SR F z σa B σ H) {i : Nat} {s : Sl} (hs : SlOk F z H s σ[i]?) (hn : isOwn s = false) : SR F z (σa.set i s) B σ H where
  w := r.w
  ext := r.ext
  dm := r.dm
  zn := r.zn
  zz := r.zz
  len := by rw [List.length_set]; exact r.len
  sl := fun j t e => by
    rcases set_get e with ⟨rfl, rfl⟩ | ⟨hj, e⟩
    · exact hs
    · exact r.sl j t e
  inj := fun j k t u p e1 e2 o1 o2 q1 q2 => by
    rcases set_get e1 with ⟨rfl, rfl⟩ | ⟨hj, e1⟩
    · rw [hn] at o1; cases o1
    · rcases set_get e2 with ⟨rfl, rfl⟩ | ⟨hk, e2⟩
      · rw [hn] at o2; cases o2
      · exact r.inj j k t u p e1 e2 o1 o2 q1 q2
theorem SR.setN (r : SR F z σa B σ H) {i : Nat} (v : Option V) : SR F z (σa.set i .no) B (σ.set i v) H where
  w := r.w
  ext := r.ext
  dm := r.dm
  zn := r.zn
  zz := r.zz
  len := by rw [List.length_set, List.length_set]; exact r.len
  sl := fun j t e => by
    rcases set_get e with ⟨rfl, rfl⟩ | ⟨hj, e⟩
    · trivial
    · rw [List.getElem?_set_ne (Ne.symm hj)]
      exact r.sl j t e
  inj := fun j k t u p e1 e2 o1 o2 q1 q2 => by
    rcases set_get e1 with ⟨rfl, rfl⟩ | ⟨hj, e1⟩
    · cases o1
    · rcases set_get e2 with ⟨rfl, rfl⟩ | ⟨hk, e2⟩
      · cases o2
      · rw [List.getElem?_set_ne (Ne.symm hj)] at q1
        rw [List.getElem?_set_ne (Ne.symm hk)] at q2
        exact r.inj j k t u p e1 e2 o1 o2 q1 q2
theorem SR.wipe (r : SR F z σa B σ H) : ∀ own : List Nat, SR F z (wipeS σa own) B (L2.wipe σ own) H
  | [] => r
  | i :: own => (r.wipe own).setN none
/-- the object of a name's own is changed -/
theorem SR.change (r : SR F z σa B σ H) {i : Nat} {s t : Sl} {p : Addr} {o : HO} (hi : σa[i]? = some s) (ho : isOwn s = true) (hp : σ[i]? = some (some (.ref p))) (hu : ∃ u, H p = some u ∧ ∀ xs, u ≠ .tup xs)
    (hs : SlOk F z (upd H p o) t σ[i]?) : SR F z (σa.set i t) B σ (upd H p o) := by
  obtain ⟨p', e', hw, _⟩ := (r.sl i s hi).own ho
  rw [hp] at e'
  have ep : p = p' := V.ref.inj (Option.some.inj (Option.some.inj e'))
  subst ep
  obtain ⟨u, hu, hn⟩ := hu
  have x : XS z H z (upd H p o) := ⟨fun _ h => h, fun a o' hz h => by rw [upd_ne (fun (e : a = p) => hw.nz (e ▸ hz))]; exact h, fun a xs h => by
    rw [upd_ne fun e => by
      subst e
      rw [hu] at h
      exact hn xs (Option.some.inj h)]
    exact h⟩
  refine ⟨⟨by rw [upd_ne (Ne.symm hw.n0)]; exact r.w.b0, by rw [upd_ne (Ne.symm hw.n1)]; exact r.w.b1, r.w.n0, r.w.n1, fun a h => by
      obtain ⟨o', e⟩ := r.w.zt a h
      exact ⟨o', x.ex a o' h e⟩⟩, fun a o' h h0 h1 => ?_, fun a h => ?_, r.zn, r.zz, by rw [List.length_set]; exact r.len, fun j u' e => ?_, fun j k u1 u2 q e1 e2 o1 o2 q1 q2 => ?_⟩
  · have hne : a ≠ p := fun e => by rw [e, hw.nw] at h; cases h
    rw [upd_ne hne]
    exact r.ext a o' h h0 h1
  · by_cases e : a = p
    · rw [e]; exact hw.nw
    · rw [upd_ne e] at h; exact r.dm a h
  · rcases set_get e with ⟨rfl, rfl⟩ | ⟨hj, e⟩
    · exact hs
    · have h := r.sl j u' e
      have apart : ∀ q, isOwn u' = true → σ[j]? = some (some (.ref q)) → q ≠ p := fun q o1 e1 e2 => hj (r.inj j i u' s q e hi o1 ho e1 (by rw [e2]; exact hp))
      cases u' with
      | no => exact h
      | va d => obtain ⟨v, e1, h1⟩ := h; exact ⟨v, e1, h1.stay x⟩
      | ow xs =>
        obtain ⟨q, vs, e1, h1, h2, h3⟩ := h
        exact ⟨q, vs, e1, h1, by rw [upd_ne (apart q rfl e1)]; exact h2, h3.stay x⟩
      | od ks ws =>
        obtain ⟨q, vs, e1, h1, h2, h3⟩ := h
        exact ⟨q, vs, e1, h1, h2.keep fun o' e2 => by rw [upd_ne (apart q rfl e1)]; exact e2, h3.stay x⟩
  · have back : ∀ {j : Nat} {u1 : Sl}, (σa.set i t)[j]? = some u1 → isOwn u1 = true → ∃ u, σa[j]? = some u ∧ isOwn u = true := fun {j u1} e o1 => by
      rcases set_get e with ⟨rfl, rfl⟩ | ⟨hj, e⟩
      · exact ⟨s, hi, ho⟩
      · exact ⟨u1, e, o1⟩
    obtain ⟨v1, f1, g1⟩ := back e1 o1
    obtain ⟨v2, f2, g2⟩ := back e2 o2
    exact r.inj j k v1 v2 q f1 f2 g1 g2 q1 q2
theorem SR.changeX (r : SR F z σa B σ H) {i : Nat} {s : Sl} {p : Addr} (o : HO) (hi : σa[i]? = some s) (ho : isOwn s = true) (hp : σ[i]? = some (some (.ref p))) (hu : ∃ u, H p = some u ∧ ∀ xs, u ≠ .tup xs) : XS z H z (upd H p o) := by
  obtain ⟨p', e', hw, _⟩ := (r.sl i s hi).own ho
  rw [hp] at e'
  have ep : p = p' := V.ref.inj (Option.some.inj (Option.some.inj e'))
  subst ep
  obtain ⟨u, hu, hn⟩ := hu
  exact ⟨fun _ h => h, fun a o' hz h => by rw [upd_ne (fun (e : a = p) => hw.nz (e ▸ hz))]; exact h, fun a xs h => by
    rw [upd_ne fun e => by
      subst e
      rw [hu] at h
      exact hn xs (Option.some.inj h)]
    exact h⟩
/-- a list of a name's own is frozen -/
theorem modify_get {α : Type} {l : List α} {i j : Nat} {f : α → α} {y : α} (h : (l.modify i f)[j]? = some y) : ∃ x, l[j]? = some x ∧ ((j = i ∧ y = f x) ∨ (j ≠ i ∧ y = x)) := by
  rw [List.getElem?_modify] at h
  cases e : l[j]? with
  | none => rw [e] at h; simp at h
  | some x =>
    rw [e] at h
    by_cases hj : i = j
    · subst hj
      simp at h
      exact ⟨x, rfl, .inl ⟨rfl, h.symm⟩⟩
    · simp [hj] at h
      exact ⟨x, rfl, .inr ⟨fun q => hj q.symm, h.symm⟩⟩
theorem SR.frz1 (r : SR F z σa B σ H) (i : Nat) : ∃ z', XS z H z' H ∧ SR F z' (σa.modify i frz1) B σ H := by
  by_cases hx : ∃ s, σa[i]? = some s ∧ isOwn s = true
  · obtain ⟨s, hi, ho⟩ := hx
    obtain ⟨p, hp, hw, u, hu⟩ := (r.sl i s hi).own ho
    have x : XS z H (fun a => z a ∨ a = p) H := ⟨fun _ h => .inl h, fun _ _ _ h => h, fun _ _ h => h⟩
    refine ⟨fun a => z a ∨ a = p, x, ⟨⟨r.w.b0, r.w.b1, fun h => ?_, fun h => ?_, fun a h => h.elim (r.w.zt a) fun e => ⟨u, e ▸ hu⟩⟩, r.ext, r.dm, fun a h => ?_, fun a h => .inl (r.zz a h), by rw [List.length_modify]; exact r.len, fun j t e => ?_, fun j k t u q e1 e2 o1 o2 q1 q2 => ?_⟩⟩
    · rcases h with h | h
      · exact r.w.n0 h
      · exact hw.n0 h.symm
    · rcases h with h | h
      · exact r.w.n1 h
      · exact hw.n1 h.symm
    · rcases h with h | h
      · exact r.zn a h
      · exact .inr (h ▸ hw.nw)
    · obtain ⟨t0, e0, ⟨rfl, rfl⟩ | ⟨hj, rfl⟩⟩ := modify_get e
      · have h := r.sl j t0 e0
        cases t0 with
        | no => exact h
        | va d => obtain ⟨v, e1, h1⟩ := h; exact ⟨v, e1, h1.stay x⟩
        | ow xs =>
          obtain ⟨q, vs, e1, h1, h2, h3⟩ := h
          rw [hp] at e1
          have ep : p = q := V.ref.inj (Option.some.inj (Option.some.inj e1))
          subst ep
          exact ⟨.ref p, hp, rep_lst (.inr rfl) h2 (h3.stay x)⟩
        | od ks ws =>
          obtain ⟨q, vs, e1, h1, h2, h3⟩ := h
          rw [hp] at e1
          have ep : p = q := V.ref.inj (Option.some.inj (Option.some.inj e1))
          subst ep
          exact ⟨.ref p, hp, by unfold Rep; exact ⟨p, vs, rfl, .inr rfl, h2, h3.stay x⟩⟩
      · have h := r.sl j t e0
        have apart : ∀ q, isOwn t = true → σ[j]? = some (some (.ref q)) → q ≠ p := fun q o1 e1 e2 => hj (r.inj j i t s q e0 hi o1 ho e1 (by rw [e2]; exact hp))
        cases t with
        | no => exact h
        | va d => obtain ⟨v, e1, h1⟩ := h; exact ⟨v, e1, h1.stay x⟩
        | ow xs =>
          obtain ⟨q, vs, e1, h1, h2, h3⟩ := h
          exact ⟨q, vs, e1, ⟨fun hz => hz.elim h1.nz (apart q rfl e1), h1.n0, h1.n1, h1.nw⟩, h2, h3.stay x⟩
        | od ks ws =>
          obtain ⟨q, vs, e1, h1, h2, h3⟩ := h
          exact ⟨q, vs, e1, ⟨fun hz => hz.elim h1.nz (apart q rfl e1), h1.n0, h1.n1, h1.nw⟩, h2, h3.stay x⟩
    · obtain ⟨t0, f0, c0⟩ := modify_get e1
      obtain ⟨u0, g0, c1⟩ := modify_get e2
      have nofr : ∀ s : Sl, isOwn (TL.frz1 s) = false := fun s => by cases s <;> rfl
      rcases c0 with ⟨rfl, rfl⟩ | ⟨hj, rfl⟩
      · rw [nofr] at o1; cases o1
      · rcases c1 with ⟨rfl, rfl⟩ | ⟨hk, rfl⟩
        · rw [nofr] at o2; cases o2
        · exact r.inj j k t u q f0 g0 o1 o2 q1 q2
  · refine ⟨z, XS.refl, ?_⟩
    have e : σa.modify i TL.frz1 = σa := by
      apply List.ext_getElem?
      intro j
      rw [List.getElem?_modify]
      by_cases hj : i = j
      · subst hj
        cases e : σa[i]? with
        | none => rfl
        | some s =>
          cases s with
          | no => simp [TL.frz1]
          | va d => simp [TL.frz1]
          | ow xs => exact absurd ⟨_, e, rfl⟩ hx
          | od ks ws => exact absurd ⟨_, e, rfl⟩ hx
      · simp [hj]
    rw [e]
    exact r
theorem SR.frz (r : SR F z σa B σ H) : ∀ is : List Nat, ∃ z', XS z H z' H ∧ SR F z' (frzS σa is) B σ H
  | [] => ⟨z, XS.refl, r⟩
  | i :: is => by
    obtain ⟨z1, x1, r1⟩ := r.frz is
    obtain ⟨z2, x2, r2⟩ := r1.frz1 i
    exact ⟨z2, x1.trans x2, r2⟩
theorem getV_get : ∀ {σa : List Sl} {i : Nat} {d : D}, getV σa i = some d → σa[i]? = some (.va d)
  | [], i, d, h => by simp [getV] at h
  | s :: r, 0, d, h => by
    cases s <;> simp [getV] at h
    subst h; rfl
  | s :: r, i + 1, d, h => by
    have h' : getV r i = some d := by simpa [getV] using h
    simpa using getV_get h'
theorem getO_get : ∀ {σa : List Sl} {i : Nat} {xs : List D}, getO σa i = some xs → σa[i]? = some (.ow xs)
  | [], i, d, h => by simp [getO] at h
  | s :: r, 0, d, h => by
    cases s <;> simp [getO] at h
    subst h; rfl
  | s :: r, i + 1, d, h => by
    have h' : getO r i = some d := by simpa [getO] using h
    simpa using getO_get h'
theorem getB_get : ∀ {σa : List Sl} {i : Nat} {d : D}, getB σa i = some d → σa[i]? = some (.va d) ∨ (∃ xs, d = .lst xs ∧ σa[i]? = some (.ow xs)) ∨ ∃ ks vs, d = .dic ks vs ∧ σa[i]? = some (.od ks vs)
  | [], i, d, h => by simp [getB] at h
  | s :: r, 0, d, h => by
    cases s <;> simp [getB] at h
    · subst h; exact .inl rfl
    · subst h; exact .inr (.inl ⟨_, rfl, rfl⟩)
    · subst h; exact .inr (.inr ⟨_, _, rfl, rfl⟩)
  | s :: r, i + 1, d, h => by
    have h' : getB r i = some d := by simpa [getB] using h
    simpa using getB_get h'
end
end TL


set_option autoImplicit true
set_option maxHeartbeats 4000000
/-! The tree layer: tuple * int, any int. -/
namespace TL
open PySem PySem.Spec PyProof.Rows L2
theorem tuple_mulS (l : Addr) (items : Array Value) (n : Nat) (dd : Option Addr) (sl : Array (Option Value)) (x : Int) (u : Tok) (c0 : (decide (x < -(2 ^ 63)) || decide (x ≥ 2 ^ 63)) = false) (c1 : (items.isEmpty || x == 1) = true) :
    Meets (Builtin.«tuple.__mul__» ⟨[.ref l, .int x u], []⟩) (fun _ R s => s.heap.get? l = some { cls := .type "tuple", dict := dd, data := .seq items n, slots := sl } ∧
      R (.ok (.ret (Value.ref l))) s) :=
  .of_wp fun prog w A R s h => by
    obtain ⟨hp, g, d, tk, os⟩ := s
    obtain ⟨hl, h⟩ := h
    have f1 := AutoSeq1.idx_int
    wp_walk using wpAny_loadPart' hl
    repeat (first
      | (refine wpAny_ite_false (decide_eq_false (by rw [c0]; exact Bool.false_ne_true)) ?_; wp_walk using wpAny_loadPart' hl)
      | (refine wpAny_ite_true (decide_eq_true (by rw [c1])) ?_; wp_walk using wpAny_loadPart' hl))
    exact ⟨_, rfl, h⟩
theorem tuple_mulN (l : Addr) (items : Array Value) (n : Nat) (dd : Option Addr) (sl : Array (Option Value)) (x : Int) (u : Tok) (c0 : (decide (x < -(2 ^ 63)) || decide (x ≥ 2 ^ 63)) = false) (c1 : (items.isEmpty || x == 1) = false) (c2 : (decide (x ≤ 0) || items.isEmpty) = true) :
    Meets (Builtin.«tuple.__mul__» ⟨[.ref l, .int x u], []⟩) (fun _ R s => s.heap.get? l = some { cls := .type "tuple", dict := dd, data := .seq items n, slots := sl } ∧
      R (.ok (.ret (Value.ref s.heap.objs.size))) { s with heap := s.heap.push { cls := Value.type "tuple", data := Data.seq #[] }, toks := s.toks }) :=
  .of_wp fun prog w A R s h => by
    obtain ⟨hp, g, d, tk, os⟩ := s
    obtain ⟨hl, h⟩ := h
    have f1 := AutoSeq1.idx_int
    wp_walk using wpAny_loadPart' hl
    repeat (first
      | (refine wpAny_ite_false (decide_eq_false (by rw [c0]; exact Bool.false_ne_true)) ?_; wp_walk using wpAny_loadPart' hl)
      | (refine wpAny_ite_false (decide_eq_false (by rw [c1]; exact Bool.false_ne_true)) ?_; wp_walk using wpAny_loadPart' hl)
      | (refine wpAny_ite_true (decide_eq_true (by rw [c2])) ?_; wp_walk using wpAny_loadPart' hl))
    exact ⟨_, rfl, h⟩
def rRepA (K : PySem.W.Frag) : R2 := fun x y H Q => ∃ l k xs, x = .ref l ∧ y = .int k ∧ SqT K H l xs ∧ -1000 ≤ k ∧ k ≤ 1000 ∧ xs.length ≤ 1000 ∧
  ((List.replicate k.toNat xs).flatten = xs → Q (.ref l) H) ∧ ∀ p, H p = none → Q (.ref p) (upd H p (.tup (List.replicate k.toNat xs).flatten))
theorem op_repA {X : Cx} : OpR X (binaryOp .Mult) (rRepA X.K) := by
  intro pins s σ H x y v u Q I rx ry h
  obtain ⟨l, k, xs, rfl, rfl, hT, h1, h2, hz, q1, q2⟩ := h
  by_cases hb : xs ≠ [] ∧ 2 ≤ k
  · exact op_repT pins s σ H _ _ v u Q I rx ry ⟨l, k, xs, rfl, rfl, hT, hb.1, hb.2, h2, hz, q2⟩
  cases rx
  obtain ⟨t, rfl⟩ := ry
  obtain ⟨its, r, ⟨⟨cls, dd, data, sl⟩, ho, hc, n, hd⟩, hs⟩ := I.tuple hT
  simp only at hc hd
  subst hc hd
  have hle : its.length = xs.length := r.length.symm
  have c0 : (decide (k < -(2 ^ 63)) || decide (k ≥ 2 ^ 63)) = false := by
    rw [decide_eq_false (by omega), decide_eq_false (by omega)] <;> rfl
  have em : its.toArray.isEmpty = xs.isEmpty := by
    cases its with
    | nil => cases xs with
      | nil => rfl
      | cons a b => simp at hle
    | cons a b => cases xs with
      | nil => simp at hle
      | cons c d => rfl
  by_cases hc : (its.toArray.isEmpty || k == 1) = true
  · refine wpAny_binaryOp_repeat_ref (T := "tuple") (U := "int") (by decide) ⟨_, ho, rfl⟩ (fun s' => typeIs_int s' k t) noFill_tuple_mul F.fills_int_mul F.slot_int_rmul repeat_tuple F.slot_int_index.lookup
      (call_meets F.slot_int_rmul (typeIs_int s k t) F.entry_int_rmul (F.args_int_rmul_2 _ _) (int_rmul_tuple k t l its.toArray n dd sl)
        ⟨ho, rfl, ⟨_, ho, rfl⟩, call_meets F.slot_tuple_mul ⟨_, ho, rfl⟩ F.entry_tuple_mul (F.args_tuple_mul_2 _ _) (tuple_mulS l its.toArray n dd sl k t c0 hc) ⟨ho, ?_⟩⟩)
    refine ⟨.ref l, H, I, rfl, q1 ?_⟩
    rw [em, Bool.or_eq_true] at hc
    rcases hc with hc | hc
    · have e : xs = [] := List.isEmpty_iff.mp hc
      subst e
      simp
    · have e : k = 1 := by simpa using hc
      subst e
      simp
  · have hc' : (its.toArray.isEmpty || k == 1) = false := by simpa using hc
    have hc2 : (decide (k ≤ 0) || its.toArray.isEmpty) = true := by
      rw [em] at hc' ⊢
      have e1 : xs ≠ [] := fun e => by rw [e] at hc'; simp at hc'
      have e2 : k ≠ 1 := fun e => by rw [e] at hc'; simp at hc'
      have e3 : k ≤ 0 := by
        by_cases e4 : 2 ≤ k
        · exact absurd ⟨e1, e4⟩ hb
        · omega
      simp [e3]
    have kz : k ≤ 0 := by
      rw [em] at hc' hc2
      have e1 : xs.isEmpty = false := by
        cases h : xs.isEmpty with
        | false => rfl
        | true => rw [h] at hc'; simp at hc'
      rw [e1] at hc2
      simpa using hc2
    refine wpAny_binaryOp_repeat_ref (T := "tuple") (U := "int") (by decide) ⟨_, ho, rfl⟩ (fun s' => typeIs_int s' k t) noFill_tuple_mul F.fills_int_mul F.slot_int_rmul repeat_tuple F.slot_int_index.lookup
      (call_meets F.slot_int_rmul (typeIs_int s k t) F.entry_int_rmul (F.args_int_rmul_2 _ _) (int_rmul_tuple k t l its.toArray n dd sl)
        ⟨ho, rfl, ⟨_, ho, rfl⟩, call_meets F.slot_tuple_mul ⟨_, ho, rfl⟩ F.entry_tuple_mul (F.args_tuple_mul_2 _ _) (tuple_mulN l its.toArray n dd sl k t c0 hc' hc2) ⟨ho, ?_⟩⟩)
    have e0 : (List.replicate k.toNat xs).flatten = [] := by
      have : k.toNat = 0 := by omega
      rw [this]
      rfl
    rw [e0] at q2
    refine ⟨.ref s.heap.objs.size, _, I.laid (t' := s.toks) (o := .tup []) (fun b ob q => Heap.get?_push_of_some _ q) (Nat.le_refl _) ?_, rfl, q2 _ (I.hok.fresh (Nat.le_refl _))⟩
    exact ⟨Nat.zero_le _, [], .nil, IsTup.new _ _⟩
end TL


set_option autoImplicit false
/-! The tree layer, part 4: expressions. -/
namespace TL
open PySem PySem.Spec PyProof.Rows L2

section
variable {X : Cx}
theorem PE.imp {e : Expr} {t t' : TE} (h : PE X e t) (i : ∀ σ H Q, t' σ H Q → t σ H Q) : PE X e t' := ⟨fun pins s σ H Q I q => h.run pins s σ H Q I (i _ _ _ q)⟩
theorem PT.imp {e : Expr} {t t' : TT} (h : PT X e t) (i : ∀ σ H Q, t' σ H Q → t σ H Q) : PT X e t' := ⟨fun pins s σ H Q I q => h.run pins s σ H Q I (i _ _ _ q)⟩
theorem PW.imp {e : Expr} {t t' : TT} (h : PW X e t) (i : ∀ σ H Q, t' σ H Q → t σ H Q) : PW X e t' := ⟨fun w pins s σ H Q I q => h.run w pins s σ H Q I (i _ _ _ q)⟩
theorem PA.imp {es : List Expr} {t t' : TA} (h : PA X es t) (i : ∀ σ H Q, t' σ H Q → t σ H Q) : PA X es t' := ⟨fun pos pins s σ H Q I q => h.run pos pins s σ H Q I (i _ _ _ q)⟩
theorem PK.imp {es : List Keyword} {t t' : TA} (h : PK X es t) (i : ∀ σ H Q, t' σ H Q → t σ H Q) : PK X es t' := ⟨fun pos pins s σ H Q I q => h.run pos pins s σ H Q I (i _ _ _ q)⟩
theorem PS.imp {st : Stmt} {t t' : TS} (h : PS X st t) (i : ∀ D σ H, t' D σ H → t D σ H) : PS X st t' := ⟨fun pins s σ H D I q => h.run pins s σ H D I (i _ _ _ q)⟩
theorem PSs.imp {st : List Stmt} {t t' : TS} (h : PSs X st t) (i : ∀ D σ H, t' D σ H → t D σ H) : PSs X st t' := ⟨fun pins s σ H D I q => h.run pins s σ H D I (i _ _ _ q)⟩
theorem PI.imp {tg it : Expr} {t t' : TI} (h : PI X tg it t) (i : ∀ σ H Q, t' σ H Q → t σ H Q) : PI X tg it t' := ⟨fun pins s σ H Q I q => h.run pins s σ H Q I (i _ _ _ q)⟩
theorem PG.imp {tg : Expr} {t t' : TG} (h : PG X tg t) (i : ∀ v σ H Q, t' v σ H Q → t v σ H Q) : PG X tg t' := ⟨fun pins s σ H v u Q I r q => h.run pins s σ H v u Q I r (i _ _ _ _ q)⟩
theorem PO.imp {e : Option Expr} {t t' : TO} (h : PO X e t) (i : ∀ σ H Q, t' σ H Q → t σ H Q) : PO X e t' := ⟨fun pins s σ H Q I q => h.run pins s σ H Q I (i _ _ _ q)⟩
end

/-! ### how a result lies -/
abbrev RR := Fr0 → Hp → (Addr → Prop) → Hp → D → V → Prop
/-- frozen -/
def RV : RR := fun F _ z' H' d v => Rep z' F.a0 H' d v
/-- a list or dict is new, and nobody else's -/
def RF : RR := fun F H z' H' d v => match d with
  | .lst ds => ∃ p vs, v = .ref p ∧ H p = none ∧ ¬ z' p ∧ H' p = some (.lst vs) ∧ Reps z' F.a0 H' ds vs
  | .dic ks ds => ∃ p vs, v = .ref p ∧ H p = none ∧ ¬ z' p ∧ DicAt H' p ks vs ∧ Reps z' F.a0 H' ds vs
  | d => Rep z' F.a0 H' d v
/-- to be read now -/
def RB : RR := fun F _ z' H' d v => match d with
  | .lst ds => ∃ p vs, v = .ref p ∧ (p ≠ F.a0 ∧ p ≠ F.a1) ∧ H' p = some (.lst vs) ∧ Reps z' F.a0 H' ds vs
  | .dic ks ds => ∃ p vs, v = .ref p ∧ (p ≠ F.a0 ∧ p ≠ F.a1) ∧ DicAt H' p ks vs ∧ Reps z' F.a0 H' ds vs
  | d => Rep z' F.a0 H' d v
/-- an expression's reading -/
def tr (R : RR) (Γ : Gm) (e : E) : TE := fun σ H Q => ∃ F z σa B, SR F z σa B σ H ∧
  wpE Γ e σa B fun d B' => ∀ z' H' v, XE F.a0 F.a1 z H z' H' → BagAt F.a0 F.a1 B' H' → R F H z' H' d v → Q v H'
abbrev JE (X : Cx) (Γ : Gm) (e : Expr) (ir : E) : Prop := PE X e (tr RV Γ ir)
abbrev JF (X : Cx) (Γ : Gm) (e : Expr) (ir : E) : Prop := PE X e (tr RF Γ ir)
abbrev JB (X : Cx) (Γ : Gm) (e : Expr) (ir : E) : Prop := PE X e (tr RB Γ ir)
/-- as a test -/
def trT (Γ : Gm) (e : E) : TT := fun σ H Q => ∃ F z σa B, SR F z σa B σ H ∧
  wpE Γ e σa B fun d B' => tst d fun t => ∀ z' H', XE F.a0 F.a1 z H z' H' → BagAt F.a0 F.a1 B' H' → Q t H'
abbrev JT (X : Cx) (Γ : Gm) (e : Expr) (ir : E) : Prop := PT X e (trT Γ ir)
abbrev JW (X : Cx) (Γ : Gm) (e : Expr) (ir : E) : Prop := PW X e (trT Γ ir)
/-- arguments: all frozen; to be read now -/
def RVs (F : Fr0) (z' : Addr → Prop) (H' : Hp) (ds : List D) (vs : List V) : Prop := Reps z' F.a0 H' ds vs
def RBs (F : Fr0) (z' : Addr → Prop) (H' : Hp) : List D → List V → Prop
  | [], vs => vs = []
  | d :: ds, vs => ∃ v r, vs = v :: r ∧ RB F H' z' H' d v ∧ RBs F z' H' ds r
abbrev RRs := Fr0 → (Addr → Prop) → Hp → List D → List V → Prop
def trA (R : RRs) (Γ : Gm) (es : List E) : TA := fun σ H Q => ∃ F z σa B, SR F z σa B σ H ∧
  wpEs Γ es σa B fun ds B' => ∀ z' H' vs, XE F.a0 F.a1 z H z' H' → BagAt F.a0 F.a1 B' H' → R F z' H' ds vs → Q vs H'
abbrev JA (X : Cx) (Γ : Gm) (es : List Expr) (irs : List E) : Prop := PA X es (trA RVs Γ irs)
abbrev JAB (X : Cx) (Γ : Gm) (es : List Expr) (irs : List E) : Prop := PA X es (trA RBs Γ irs)

section
variable {F : Fr0} {z z' z2 : Addr → Prop} {H H' H2 H3 : Hp} {d : D} {v : V} {B B' : Bag}
theorem RV.rb (w : WOk F.a0 F.a1 z B H) (h : Rep z F.a0 H d v) : RB F H2 z H d v := by
  cases d <;> try exact h
  · obtain ⟨a, vs, rfl, hz, e, r⟩ := h.lst
    exact ⟨a, vs, rfl, ⟨fun q => w.n0 (q ▸ hz), fun q => w.n1 (q ▸ hz)⟩, e, r⟩
  · obtain ⟨a, vs, rfl, hz, e, r⟩ := h.dic
    exact ⟨a, vs, rfl, ⟨fun q => w.n0 (q ▸ hz), fun q => w.n1 (q ▸ hz)⟩, e, r⟩
theorem RB.stay (w : WOk F.a0 F.a1 z B H) (x : XE F.a0 F.a1 z H z' H') (h : RB F H2 z H d v) : RB F H3 z' H' d v := by
  cases d <;> try exact Rep.stay (x.xs w) h
  · obtain ⟨p, vs, rfl, n, e, r⟩ := h
    exact ⟨p, vs, rfl, n, x.ex _ _ e n.1 n.2, r.stay (x.xs w)⟩
  · obtain ⟨p, vs, rfl, n, e, r⟩ := h
    exact ⟨p, vs, rfl, n, e.keep fun o q => x.ex _ _ q n.1 n.2, r.stay (x.xs w)⟩
theorem RF.rb (b : BagAt F.a0 F.a1 B H) (h : RF F H z' H' d v) : RB F H2 z' H' d v := by
  cases d <;> try exact h
  · obtain ⟨p, vs, rfl, n, _, e, r⟩ := h
    exact ⟨p, vs, rfl, ⟨fun q => by (rw [q, b.1] at n; cases n), fun q => by (rw [q, b.2] at n; cases n)⟩, e, r⟩
  · obtain ⟨p, vs, rfl, n, _, e, r⟩ := h
    exact ⟨p, vs, rfl, ⟨fun q => by (rw [q, b.1] at n; cases n), fun q => by (rw [q, b.2] at n; cases n)⟩, e, r⟩
/-- what is new may be frozen -/
theorem RF.freeze (x : XE F.a0 F.a1 z H z' H') (h : RF F H z' H' d v) : ∃ z2, XE F.a0 F.a1 z H z2 H' ∧ Rep z2 F.a0 H' d v := by
  have go : ∀ {p : Addr}, H p = none → (∃ o, H' p = some o) → XE F.a0 F.a1 z H (fun a => z' a ∨ a = p) H' ∧ XS z' H' (fun a => z' a ∨ a = p) H' := fun {p} n t =>
    ⟨⟨fun a h => .inl (x.zz a h), fun a h => by
      rcases h with h | h
      · exact x.zn a h
      · exact .inr ⟨h ▸ n, h ▸ t⟩, x.ex, x.dm⟩, ⟨fun _ h => .inl h, fun _ _ _ h => h, fun _ _ h => h⟩⟩
  cases d <;> try exact ⟨z', x, h⟩
  · obtain ⟨p, vs, rfl, n, _, e, r⟩ := h
    exact ⟨_, (go n ⟨_, e⟩).1, rep_lst (.inr rfl) e (r.stay (go n ⟨_, e⟩).2)⟩
  · obtain ⟨p, vs, rfl, n, _, e, r⟩ := h
    refine ⟨_, (go n e.there).1, ?_⟩
    unfold Rep
    exact ⟨p, vs, rfl, .inr rfl, e, r.stay (go n e.there).2⟩
end
section
variable {X : Cx} {Γ : Gm} {e : Expr} {ir : E}
theorem JF.je (G : GMono Γ) (h : JF X Γ e ir) : JE X Γ e ir := PE.imp h fun σ H Q ⟨F, z, σa, B, sr, q⟩ =>
  ⟨F, z, σa, B, sr, wpE_mono G _ _ _ _ _ (fun d B' k z' H' v x b r => by
    obtain ⟨z2, x2, r2⟩ := RF.freeze x r
    exact k z2 H' v x2 b r2) q⟩
theorem JE.jb (G : GMono Γ) (h : JE X Γ e ir) : JB X Γ e ir := PE.imp h fun σ H Q ⟨F, z, σa, B, sr, q⟩ =>
  ⟨F, z, σa, B, sr, wpE_mono G _ _ _ _ _ (fun d B' k z' H' v x b r => k z' H' v x b (RV.rb (x.wok sr.w b) r)) q⟩
/-- where its value is always a bool -/
theorem JE.jt (G : GMono Γ) (h : JE X Γ e ir) (he : ∀ whole, isTrue e X.env whole = (do let v ← whole; standAt e.pos; holding [v] (truthy v))) : JT X Γ e ir :=
  PT.imp (pt_val h he) fun σ H Q ⟨F, z, σa, B, sr, q⟩ => ⟨F, z, σa, B, sr, wpE_mono G _ _ _ _ _ (fun d B' k z' H' v x b r => by
    cases d <;> try exact False.elim k
    exact ⟨_, r.bl, k z' H' x b⟩) q⟩

/-! ### names, constants -/
/-- the slots' names, the scope -/
structure Nm (X : Cx) (N : List Str) (sc : Scope) : Prop where
  eN : X.N = N
  nd : N.Nodup
  eS : X.env.scope = sc
def visB (sc : Scope) (x : Str) : Bool := match sc.names.lookup x with
  | some .local => true
  | some .cell => true
  | some .free => true
  | _ => false
theorem vis_of {sc : Scope} {x : Str} (h : visB sc x = true) : Vis sc x := by
  unfold visB at h
  split at h <;> first
    | exact .inl (by assumption)
    | exact .inr (.inl (by assumption))
    | exact .inr (.inr (by assumption))
    | cases h
def nameOk (N : List Str) (sc : Scope) (x : Str) (i : Nat) : Bool := decide (N[i]? = some x) && visB sc x && !(x == ("__debug__" : Str)) && !(x == ("__classdict__" : Str))
theorem pe_name {N : List Str} {sc : Scope} {x : Str} {i : Nat} {pos : Pos} (M : Nm X N sc) (h : nameOk N sc x i = true) : PE X (.Name x pos) (tVar i) := by
  unfold nameOk at h
  simp only [Bool.and_eq_true, decide_eq_true_eq, Bool.not_eq_true'] at h
  obtain ⟨⟨⟨h1, h2⟩, h3⟩, h4⟩ := h
  exact pe_var (by rw [M.eN]; exact h1) (by rw [M.eS]; exact vis_of h2) h3 h4
theorem je_var {N : List Str} {sc : Scope} {x : Str} {i : Nat} {pos : Pos} (M : Nm X N sc) (h : nameOk N sc x i = true) : JE X Γ (.Name x pos) (.var i) :=
  PE.imp (pe_name M h) fun σ H Q ⟨F, z, σa, B, sr, q⟩ => by
    unfold wpE at q
    obtain ⟨d, e, k⟩ := bnd_iff.mp q
    obtain ⟨v, ev, r⟩ := sr.sl i _ (getV_get e)
    exact ⟨v, ev, k z H v XE.refl sr.w.bag r⟩
theorem jb_bor {N : List Str} {sc : Scope} {x : Str} {i : Nat} {pos : Pos} (M : Nm X N sc) (h : nameOk N sc x i = true) : JB X Γ (.Name x pos) (.bor i) :=
  PE.imp (pe_name M h) fun σ H Q ⟨F, z, σa, B, sr, q⟩ => by
    unfold wpE at q
    obtain ⟨d, e, k⟩ := bnd_iff.mp q
    rcases getB_get e with f | ⟨xs, rfl, f⟩ | ⟨ks, vs, rfl, f⟩
    · obtain ⟨v, ev, r⟩ := sr.sl i _ f
      exact ⟨v, ev, k z H v XE.refl sr.w.bag (RV.rb sr.w r)⟩
    · obtain ⟨p, vs, ev, o, eh, r⟩ := sr.sl i _ f
      exact ⟨_, ev, k z H _ XE.refl sr.w.bag ⟨p, vs, rfl, ⟨o.n0, o.n1⟩, eh, r⟩⟩
    · obtain ⟨p, vs, ev, o, eh, r⟩ := sr.sl i _ f
      exact ⟨_, ev, k z H _ XE.refl sr.w.bag ⟨p, vs, rfl, ⟨o.n0, o.n1⟩, eh, r⟩⟩
theorem je_int {i : Int} {j : Nat} {pos : Pos} : JE X Γ (.Constant (.int i) j pos) (.int i) := PE.imp pe_int fun σ H Q ⟨F, z, σa, B, sr, q⟩ => by
  unfold wpE at q
  exact q z H _ XE.refl sr.w.bag rep_int
theorem je_bl {i : Bool} {j : Nat} {pos : Pos} : JE X Γ (.Constant (.bool i) j pos) (.bl i) := PE.imp pe_bl fun σ H Q ⟨F, z, σa, B, sr, q⟩ => by
  unfold wpE at q
  exact q z H _ XE.refl sr.w.bag rep_bl
theorem je_non {j : Nat} {pos : Pos} : JE X Γ (.Constant .none j pos) .non := PE.imp pe_non fun σ H Q ⟨F, z, σa, B, sr, q⟩ => by
  unfold wpE at q
  exact q z H _ XE.refl sr.w.bag rep_non
theorem je_str {x : Str} {j : Nat} {pos : Pos} : JE X Γ (.Constant (.str x) j pos) (.str x) := PE.imp pe_str fun σ H Q ⟨F, z, σa, B, sr, q⟩ => by
  unfold wpE at q
  exact q z H _ XE.refl sr.w.bag rep_str
theorem je_glb {x : Str} {n : Nat} {i : Int} {t : Tok} {pos : Pos} (hg : Gl X x) (hm : X.mg x = some (.int i t)) (hd : (x == ("__debug__" : Str)) = false) : JE X Γ (.Name x pos) (.glb n i) :=
  PE.imp (pe_glob (v := .int i) hg hm ⟨_, rfl⟩ hd) fun σ H Q ⟨F, z, σa, B, sr, q⟩ => by
    unfold wpE at q
    exact q z H _ XE.refl sr.w.bag rep_int

/-! ### two parts, and an operation of the values -/
theorem two {a b : E} {R : V → V → Hp → Prop} {K : D → D → Bag → Prop} (G : GMono Γ) {F : Fr0} {z : Addr → Prop} {σa : List Sl} {B : Bag} {σ : L2.St} {H : Hp} (sr : SR F z σa B σ H)
    (h : wpE Γ a σa B fun x B1 => wpE Γ b σa B1 fun y B2 => K x y B2)
    (hk : ∀ x y B2 z2 H2 xv yv, XE F.a0 F.a1 z H z2 H2 → SR F z2 σa B2 σ H2 → RB F H z2 H2 x xv → RB F H z2 H2 y yv → K x y B2 → R xv yv H2) :
    tr RB Γ a σ H fun xv H1 => tr RB Γ b σ H1 fun yv H2 => R xv yv H2 :=
  ⟨F, z, σa, B, sr, wpE_mono G _ _ _ _ _ (fun x B1 h1 z1 H1 xv x1 b1 r1 =>
    ⟨F, z1, σa, B1, sr.step x1 b1, wpE_mono G _ _ _ _ _ (fun y B2 h2 z2 H2 yv x2 b2 r2 =>
      hk x y B2 z2 H2 xv yv (x1.trans x2) ((sr.step x1 b1).step x2 b2) (r1.stay (x1.wok sr.w b1) x2) (by exact RB.stay ((sr.step x1 b1).step x2 b2).w XE.refl r2) h2) h1⟩) h⟩
/-- a pure operation's end -/
def PQ (R : RR) (F : Fr0) (z : Addr → Prop) (B : Bag) (H : Hp) (K : D → Prop) (Q : VK) : Prop :=
  ∀ d z' H' v, K d → XE F.a0 F.a1 z H z' H' → BagAt F.a0 F.a1 B H' → R F H z' H' d v → Q v H'
/-- a two-place operation, by trees -/
def R2D (R : RR) (o : D → D → (D → Prop) → Prop) : R2 := fun xv yv H Q => ∃ F z B x y K, WOk F.a0 F.a1 z B H ∧ RB F H z H x xv ∧ RB F H z H y yv ∧ o x y K ∧ PQ R F z B H K Q
theorem tr_two (R : RR) {ra : R2} {a b c : E} {o : D → D → (D → Prop) → Prop} (G : GMono Γ) (hr : ∀ x y H Q, R2D R o x y H Q → ra x y H Q)
    (hw : ∀ σ B Q, wpE Γ c σ B Q → wpE Γ a σ B fun x B1 => wpE Γ b σ B1 fun y B2 => o x y fun d => Q d B2)
    (hR : ∀ F (H0 H1 : Hp) z H d v, (∀ p, H1 p = none → H0 p = none) → R F H1 z H d v → R F H0 z H d v) :
    ∀ σ H Q, tr R Γ c σ H Q → tOp ra (tr RB Γ a) (tr RB Γ b) σ H Q := fun σ H Q ⟨F, z, σa, B, sr, q⟩ =>
  two G sr (hw _ _ _ q) fun x y B2 z2 H2 xv yv x2 sr2 rx ry k => hr _ _ _ _ ⟨F, z2, B2, x, y, _, sr2.w, RB.stay sr2.w XE.refl rx, RB.stay sr2.w XE.refl ry, k, fun d z' H' v kd x' b' r' =>
    kd z' H' v (x2.trans x') b' (hR F H H2 z' H' d v x2.dm r')⟩
theorem RF.old {F : Fr0} {H0 H1 : Hp} {z : Addr → Prop} {H : Hp} {d : D} {v : V} (k : ∀ p, H1 p = none → H0 p = none) (h : RF F H1 z H d v) : RF F H0 z H d v := by
  cases d <;> try exact h
  · obtain ⟨p, vs, e, n, r⟩ := h; exact ⟨p, vs, e, k p n, r⟩
  · obtain ⟨p, vs, e, n, r⟩ := h; exact ⟨p, vs, e, k p n, r⟩
end
end TL


set_option autoImplicit false
/-! The tree layer, part 5: operators. -/
namespace TL
open PySem PySem.Spec PyProof.Rows L2

theorem LIM_eq : sizeLine = LIM := by decide
section
variable {F : Fr0} {z : Addr → Prop} {B : Bag} {H : Hp} {K : D → Prop} {Q : VK}
/-- a number, a text, a bool, None: the heap as it is -/
theorem PQ.same {R : RR} (p : PQ R F z B H K Q) (w : WOk F.a0 F.a1 z B H) {d : D} {v : V} (k : K d) (r : R F H z H d v) : Q v H :=
  p d z H v k XE.refl w.bag r
theorem PQ.int (p : PQ RF F z B H K Q) (w : WOk F.a0 F.a1 z B H) {i : Int} (k : K (.int i)) : Q (.int i) H := p.same w k (show Rep z F.a0 H (.int i) (.int i) from rep_int)
theorem PQ.str (p : PQ RF F z B H K Q) (w : WOk F.a0 F.a1 z B H) {i : Str} (k : K (.str i)) : Q (.str i) H := p.same w k (show Rep z F.a0 H (.str i) (.str i) from rep_str)
theorem PQ.bl (p : PQ RF F z B H K Q) (w : WOk F.a0 F.a1 z B H) {i : Bool} (k : K (.bl i)) : Q (.bl i) H := p.same w k (show Rep z F.a0 H (.bl i) (.bl i) from rep_bl)
theorem WOk.fresh (w : WOk F.a0 F.a1 z B H) {a : Addr} (n : H a = none) : ¬ z a := fun h => by
  obtain ⟨o, e⟩ := w.zt a h
  rw [n] at e; cases e
theorem PQ.tup (p : PQ RF F z B H K Q) (w : WOk F.a0 F.a1 z B H) {ds : List D} {vs : List V} {a : Addr} (k : K (.tup ds)) (n : H a = none) (r : Reps z F.a0 H ds vs) :
    Q (.ref a) (upd H a (.tup vs)) :=
  p (.tup ds) z _ _ k (XE.new n) (w.bag.new n) (show Rep z F.a0 _ (.tup ds) _ from rep_tup upd_same (r.stay ((XE.new (a0 := F.a0) (a1 := F.a1) n).xs w)))
theorem PQ.lst (p : PQ RF F z B H K Q) (w : WOk F.a0 F.a1 z B H) {ds : List D} {vs : List V} {a : Addr} (k : K (.lst ds)) (n : H a = none) (r : Reps z F.a0 H ds vs) :
    Q (.ref a) (upd H a (.lst vs)) :=
  p (.lst ds) z _ _ k (XE.new n) (w.bag.new n) ⟨a, vs, rfl, n, w.fresh n, upd_same, r.stay ((XE.new (a0 := F.a0) (a1 := F.a1) n).xs w)⟩
end
section
variable {F : Fr0} {z : Addr → Prop} {H0 H : Hp} {v : V}
theorem RB.int {i : Int} (h : RB F H0 z H (.int i) v) : v = .int i := Rep.int (show Rep z F.a0 H _ _ from h)
theorem RB.str {i : Str} (h : RB F H0 z H (.str i) v) : v = .str i := Rep.str (show Rep z F.a0 H _ _ from h)
theorem RB.bl {i : Bool} (h : RB F H0 z H (.bl i) v) : v = .bl i := Rep.bl (show Rep z F.a0 H _ _ from h)
theorem RB.non (h : RB F H0 z H .non v) : v = .non := Rep.non (show Rep z F.a0 H _ _ from h)
theorem RB.bag (h : RB F H0 z H .bag v) : v = .ref F.a0 := Rep.bag (show Rep z F.a0 H _ _ from h)
theorem RB.tup {ds : List D} (h : RB F H0 z H (.tup ds) v) : ∃ a vs, v = .ref a ∧ H a = some (.tup vs) ∧ Reps z F.a0 H ds vs := Rep.tup (show Rep z F.a0 H _ _ from h)
end
section
variable {X : Cx} {Γ : Gm}
theorem op_addD : OpR X (binaryOp .Add) (R2D RF addD) := by
  intro pins s σ H xv yv v u Q I rx ry ⟨F, z, B, x, y, K, w, hx, hy, k, pq⟩
  cases x with
  | int i =>
    cases y with
    | int j =>
      obtain rfl := RB.int hx
      obtain rfl := RB.int hy
      exact op_add pins s σ H _ _ v u Q I rx ry ⟨i, j, rfl, rfl, pq.int w k⟩
    | _ => exact False.elim k
  | tup a =>
    cases y with
    | tup b =>
      obtain ⟨p, vs, rfl, e, r⟩ := RB.tup hx
      obtain ⟨q, ws, rfl, e', r'⟩ := RB.tup hy
      have hl : vs.length + ws.length ≤ sizeLine := by
        rw [← r.length, ← r'.length, LIM_eq]
        exact k.1
      have kk : K (.tup (a ++ b)) := k.2
      refine op_catA pins s σ H _ _ v u Q I rx ry ⟨p, q, vs, ws, rfl, rfl, SqT.of e, SqT.of e', hl, fun h => ?_, fun _ h => ?_, fun _ _ n np => pq.tup w kk np (r.append r')⟩
      · have ea : a = [] := List.eq_nil_of_length_eq_zero (by rw [r.length, h]; rfl)
        subst ea
        exact pq.same w kk hy
      · have eb : b = [] := List.eq_nil_of_length_eq_zero (by rw [r'.length, h]; rfl)
        subst eb
        rw [List.append_nil] at kk
        exact pq.same w kk hx
    | _ => exact False.elim k
  | lst a =>
    cases y with
    | lst b =>
      obtain ⟨p, vs, rfl, _, e, r⟩ := hx
      obtain ⟨q, ws, rfl, _, e', r'⟩ := hy
      have hl : vs.length + ws.length ≤ sizeLine := by
        rw [← r.length, ← r'.length, LIM_eq]
        exact k.1
      exact op_cat pins s σ H _ _ v u Q I rx ry ⟨p, q, vs, ws, rfl, rfl, e, e', hl, fun n np => pq.lst w k.2 np (r.append r')⟩
    | _ => exact False.elim k
  | str a =>
    cases y with
    | str b =>
      obtain rfl := RB.str hx
      obtain rfl := RB.str hy
      exact op_add_str pins s σ H _ _ v u Q I rx ry ⟨a, b, rfl, rfl, by rw [LIM_eq]; exact k.1, pq.str w k.2⟩
    | _ => exact False.elim k
  | _ => exact False.elim k
/-- two ints -/
theorem op_intD {f : Value → Value → Sem Value} {C : Int → Int → Prop} {g : Int → Int → Int} {o : D → D → (D → Prop) → Prop} (h : OpR X f (rI C fun i j => .int (g i j)))
    (ho : ∀ x y K, o x y K → int2 x y fun i j => C i j ∧ K (.int (g i j))) : OpR X f (R2D RF o) := by
  intro pins s σ H xv yv v u Q I rx ry ⟨F, z, B, x, y, K, w, hx, hy, k, pq⟩
  have k := ho _ _ _ k
  cases x with
  | int i =>
    cases y with
    | int j =>
      obtain rfl := RB.int hx
      obtain rfl := RB.int hy
      exact h pins s σ H _ _ v u Q I rx ry ⟨i, j, rfl, rfl, k.1, pq.int w k.2⟩
    | _ => exact False.elim k
  | _ => exact False.elim k
theorem opI0R {f : Value → Value → Sem Value} {g : Int → Int → Int} (h : OpR X f (rI0 fun i j => .int (g i j))) : OpR X f (rI (fun _ _ => True) fun i j => .int (g i j)) :=
  fun pins s σ H x y v u Q I rx ry ⟨i, j, e1, e2, _, q⟩ => h pins s σ H x y v u Q I rx ry ⟨i, j, e1, e2, q⟩
theorem op_mulI : OpR X (binaryOp .Mult) (rI mulOk fun i j => .int (i * j)) := opI fun i j _ _ _ _ _ hc q => mul_int q (by
  rcases hc with h | h | h
  · exact CMul.ok (.inl h)
  · exact CMul.ok (.inr h)
  · exact CMulW.ok h)
theorem op_mulD : OpR X (binaryOp .Mult) (R2D RF mulD) := by
  intro pins s σ H xv yv v u Q I rx ry ⟨F, z, B, x, y, K, w, hx, hy, k, pq⟩
  cases x with
  | int i =>
    cases y with
    | int j =>
      obtain rfl := RB.int hx
      obtain rfl := RB.int hy
      exact op_mulI pins s σ H _ _ v u Q I rx ry ⟨i, j, rfl, rfl, k.1, pq.int w k.2⟩
    | _ => exact False.elim k
  | tup a =>
    cases y with
    | int j =>
      obtain ⟨p, vs, rfl, e, r⟩ := RB.tup hx
      obtain rfl := RB.int hy
      obtain ⟨k1, k2, k3, k4⟩ := k
      refine op_repA pins s σ H _ _ v u Q I rx ry ⟨p, j, vs, rfl, rfl, SqT.of e, k1, k2, by rw [← r.length]; exact k3, fun h => ?_, fun n np => pq.tup w k4 np (r.rep _)⟩
      refine pq.same w k4 (show Rep z F.a0 H (.tup (repD j a)) _ from rep_tup (vs := vs) e ?_)
      have r2 := r.rep j.toNat
      rw [h] at r2
      exact r2
    | _ => exact False.elim k
  | lst a =>
    cases y with
    | int j =>
      obtain ⟨p, vs, rfl, _, e, r⟩ := hx
      obtain rfl := RB.int hy
      obtain ⟨k1, k2, k3, k4⟩ := k
      exact op_rep pins s σ H _ _ v u Q I rx ry ⟨p, j, vs, rfl, rfl, e, by omega, by omega, by rw [← r.length, LIM_eq]; exact k3, fun n np => pq.lst w k4 np (r.rep _)⟩
    | _ => exact False.elim k
  | _ => exact False.elim k
def opOf : BOp → Operator
  | .add => .Add | .sub => .Sub | .mul => .Mult | .fdiv => .FloorDiv | .mod => .Mod | .pow => .Pow | .shl => .LShift | .shr => .RShift | .band => .BitAnd | .bor => .BitOr | .bxor => .BitXor
theorem op_binD (o : BOp) : OpR X (binaryOp (opOf o)) (R2D RF (binD o)) := by
  cases o with
  | add => exact op_addD
  | mul => exact op_mulD
  | sub => exact op_intD (opI0R op_sub) fun x y K h => by cases x <;> cases y <;> first | exact ⟨trivial, h⟩ | exact h
  | fdiv => exact op_intD op_fdivW fun x y K h => h
  | mod => exact op_intD op_mod fun x y K h => h
  | pow => exact op_intD op_pow fun x y K h => h
  | shl => exact op_intD op_shl fun x y K h => h
  | shr => exact op_intD op_shr fun x y K h => h
  | band => exact op_intD (opI0R op_and) fun x y K h => int2_mono (fun _ _ q => ⟨trivial, q⟩) h
  | bor => exact op_intD (opI0R op_or) fun x y K h => int2_mono (fun _ _ q => ⟨trivial, q⟩) h
  | bxor => exact op_intD (opI0R op_xor) fun x y K h => int2_mono (fun _ _ q => ⟨trivial, q⟩) h
theorem jf_bin {a b : Expr} {ia ib : E} {o : BOp} {pos : Pos} (G : GMono Γ) (ha : JB X Γ a ia) (hb : JB X Γ b ib) : JF X Γ (.BinOp a (opOf o) b pos) (.bin o ia ib) :=
  PE.imp (pe_op (op_binD o) ha hb) (tr_two RF G (fun _ _ _ _ h => h) (fun σ B Q h => by unfold wpE at h; exact h) fun _ _ _ _ _ _ _ k h => RF.old k h)
theorem jf_neg {a : Expr} {ia : E} {pos : Pos} (G : GMono Γ) (ha : JB X Γ a ia) : JF X Γ (.UnaryOp .USub a pos) (.neg ia) :=
  PE.imp (pe_un un_neg ha) fun σ H Q ⟨F, z, σa, B, sr, q⟩ => by
    unfold wpE at q
    refine ⟨F, z, σa, B, sr, wpE_mono G _ _ _ _ _ (fun d B' k z' H' v x b r => ?_) q⟩
    cases d <;> try exact False.elim k
    exact ⟨_, RB.int r, k z' H' _ x b (show Rep z' F.a0 H' (.int _) (.int _) from rep_int)⟩

/-! ### == and in -/
mutual
def toPy : D → PyData
  | .non => .none
  | .bl b => .bool b
  | .int i => .int i
  | .str x => .str x
  | .tup xs => .tuple (toPys xs)
  | .lst xs => .list (toPys xs)
  | .dic _ _ => .dict []
  | .bag => .dict []
def toPys : List D → List PyData
  | [] => []
  | x :: xs => toPy x :: toPys xs
end
mutual
theorem eqv_toPy : ∀ x y : D, PyData.eqv (toPy x) (toPy y) = eqD x y
  | .non, y => by cases y <;> simp [toPy, PyData.eqv, eqD]
  | .bl a, y => by cases y <;> simp [toPy, PyData.eqv, eqD, Bool.beq_eq_decide_eq]
  | .int a, y => by cases y <;> simp [toPy, PyData.eqv, eqD, Bool.beq_eq_decide_eq]
  | .str a, y => by cases y <;> simp [toPy, PyData.eqv, eqD, Bool.beq_eq_decide_eq]
  | .tup a, y => by cases y <;> simp [toPy, PyData.eqv, eqD, eqvs_toPy]
  | .lst a, y => by cases y <;> simp [toPy, PyData.eqv, eqD, eqvs_toPy]
  | .dic _ _, y => by cases y <;> simp [toPy, PyData.eqv, eqD]
  | .bag, y => by cases y <;> simp [toPy, PyData.eqv, eqD]
theorem eqvs_toPy : ∀ xs ys : List D, PyData.eqvAll (toPys xs) (toPys ys) = eqDs xs ys
  | [], [] => by simp [toPys, PyData.eqvAll, eqDs]
  | [], _ :: _ => by simp [toPys, PyData.eqvAll, eqDs]
  | _ :: _, [] => by simp [toPys, PyData.eqvAll, eqDs]
  | x :: xs, y :: ys => by simp [toPys, PyData.eqvAll, eqDs, eqv_toPy x y, eqvs_toPy xs ys]
end
theorem toPys_map : ∀ xs : List D, toPys xs = xs.map toPy
  | [] => by simp [toPys]
  | x :: xs => by simp [toPys, toPys_map xs]
mutual
theorem okD_lay : ∀ (x : D) (n : Nat), okD x n = true → (toPy x).canLay0 = true ∧ (toPy x).depth ≤ n
  | .non, n, _ => by simp [toPy, PyData.canLay0, PyData.depth]
  | .bl a, n, _ => by simp [toPy, PyData.canLay0, PyData.depth]
  | .int a, n, _ => by simp [toPy, PyData.canLay0, PyData.depth]
  | .str a, n, h => by
    refine ⟨?_, by simp [toPy, PyData.depth]⟩
    simp only [toPy, PyData.canLay0]
    unfold okD okStr at h
    exact h
  | .tup a, n, h => by
    unfold okD at h
    rw [Bool.and_eq_true, decide_eq_true_eq] at h
    have q := okDs_lay a (n - 1) h.2
    simp only [toPy, PyData.canLay0, PyData.depth]
    exact ⟨q.1, by have := q.2; have := h.1; omega⟩
  | .lst a, n, h => by
    unfold okD at h
    rw [Bool.and_eq_true, decide_eq_true_eq] at h
    have q := okDs_lay a (n - 1) h.2
    simp only [toPy, PyData.canLay0, PyData.depth]
    exact ⟨q.1, by have := q.2; have := h.1; omega⟩
  | .dic _ _, n, h => by unfold okD at h; cases h
  | .bag, n, h => by unfold okD at h; cases h
theorem okDs_lay : ∀ (x : List D) (n : Nat), okDs x n = true → PyData.canLayAll0 (toPys x) = true ∧ PyData.depthAll (toPys x) ≤ n
  | [], n, _ => by simp [toPys, PyData.canLayAll0, PyData.depthAll]
  | x :: xs, n, h => by
    unfold okDs at h
    rw [Bool.and_eq_true] at h
    have q1 := okD_lay x n h.1
    have q2 := okDs_lay xs n h.2
    simp only [toPys, PyData.canLayAll0, PyData.depthAll, Bool.and_eq_true]
    exact ⟨⟨q1.1, q2.1⟩, by have := q1.2; have := q2.2; omega⟩
end
theorem okD_shaped {x : D} {n : Nat} (h : okD x n = true) (hn : n ≤ 64) : SeqAt.shaped (toPy x) = true := by
  have q := okD_lay x n h
  unfold SeqAt.shaped
  rw [Bool.and_eq_true]
  exact ⟨q.1, decide_eq_true (Nat.le_trans q.2 hn)⟩
mutual
theorem Rep.dp {K : PySem.W.Frag} {z : Addr → Prop} {a0 : Addr} {H : Hp} : ∀ {x : D} {v : V} {n : Nat}, okD x n = true → Rep z a0 H x v → Dp K H v (toPy x)
  | .non, v, n, h, r => by rw [r.non, toPy]; exact .non
  | .bl b, v, n, h, r => by rw [r.bl, toPy]; exact .bl b
  | .int b, v, n, h, r => by rw [r.int, toPy]; exact .int b
  | .str b, v, n, h, r => by rw [r.str, toPy]; exact .str b
  | .tup xs, v, n, h, r => by
    unfold okD at h
    rw [Bool.and_eq_true] at h
    obtain ⟨a, vs, rfl, e, q⟩ := r.tup
    rw [toPy]
    exact .tup (SqT.of e) (Reps.dps h.2 q)
  | .lst xs, v, n, h, r => by
    unfold okD at h
    rw [Bool.and_eq_true] at h
    obtain ⟨a, vs, rfl, _, e, q⟩ := r.lst
    rw [toPy]
    exact .lst (SqL.of e) (Reps.dps h.2 q)
  | .dic _ _, v, n, h, r => by unfold okD at h; cases h
  | .bag, v, n, h, r => by unfold okD at h; cases h
theorem Reps.dps {K : PySem.W.Frag} {z : Addr → Prop} {a0 : Addr} {H : Hp} : ∀ {x : List D} {v : List V} {n : Nat}, okDs x n = true → Reps z a0 H x v → DpAll K H v (toPys x)
  | [], v, n, h, r => by rw [r.of_nil, toPys]; exact .nil
  | x :: xs, v, n, h, r => by
    unfold okDs at h
    rw [Bool.and_eq_true] at h
    obtain ⟨w, ws, rfl, h1, h2⟩ := r.uncons
    rw [toPys]
    exact .cons (Rep.dp h.1 h1) (Reps.dps h.2 h2)
end
theorem RB.dp {K : PySem.W.Frag} {F : Fr0} {z : Addr → Prop} {H0 H : Hp} {x : D} {v : V} {n : Nat} (h : okD x n = true) (r : RB F H0 z H x v) : Dp K H v (toPy x) := by
  cases x with
  | lst xs =>
    unfold okD at h
    rw [Bool.and_eq_true] at h
    obtain ⟨a, vs, rfl, _, e, q⟩ := r
    rw [toPy]
    exact .lst (SqL.of e) (Reps.dps h.2 q)
  | dic ks vs => unfold okD at h; cases h
  | _ => exact Rep.dp (z := z) (a0 := F.a0) h r
def copOf : COp → CmpOp
  | .lt => .Lt | .le => .LtE | .gt => .Gt | .ge => .GtE | .eq => .Eq | .ne => .NotEq | .isN => .Is | .isnN => .IsNot | .isB => .Is | .isnB => .IsNot | .inn => .In | .nin => .NotIn
/-- a comparison's trees -/
def cmpB (o : COp) (x y : D) (K : D → Prop) : Prop := cmpD o x y fun t => K (.bl t)
theorem op_ordD {f : Value → Value → Sem Value} {p : Int → Int → Bool} {q : Str → Str → Bool} (h1 : OpR X f (rI0 fun i j => .bl (p i j)))
    (h2 : OpR X f (fun x y H Q => ∃ i j, x = .str i ∧ y = .str j ∧ Q (.bl (q i j)) H)) : OpR X f (R2D RF fun x y K => ordD p q x y fun t => K (.bl t)) := by
  intro pins s σ H xv yv v u Q I rx ry ⟨F, z, B, x, y, K, w, hx, hy, k, pq⟩
  cases x with
  | int i =>
    cases y with
    | int j =>
      obtain rfl := RB.int hx
      obtain rfl := RB.int hy
      exact h1 pins s σ H _ _ v u Q I rx ry ⟨i, j, rfl, rfl, pq.bl w k⟩
    | _ => exact False.elim k
  | str i =>
    cases y with
    | str j =>
      obtain rfl := RB.str hx
      obtain rfl := RB.str hy
      exact h2 pins s σ H _ _ v u Q I rx ry ⟨i, j, rfl, rfl, pq.bl w k⟩
    | _ => exact False.elim k
  | _ => exact False.elim k
theorem RB.isNon {F : Fr0} {z : Addr → Prop} {H0 H : Hp} {x : D} {v : V} (r : RB F H0 z H x v) : decide (v = .non) = isNon x := by
  cases x with
  | non => rw [RB.non r]; rfl
  | bl _ => rw [RB.bl r]; rfl
  | int _ => rw [RB.int r]; rfl
  | str _ => rw [RB.str r]; rfl
  | tup _ => obtain ⟨a, vs, rfl, _⟩ := RB.tup r; rfl
  | lst _ => obtain ⟨a, vs, rfl, _⟩ := r; rfl
  | dic _ _ => obtain ⟨a, vs, rfl, _⟩ := r; rfl
  | bag => rw [RB.bag r]; rfl
theorem op_cmpD (hu : X.A.units + 65 < cLine) (o : COp) : OpR X (compareOp (copOf o)) (R2D RF (cmpB o)) := by
  cases o with
  | lt => exact op_ordD op_lt op_lt_str
  | le => exact op_ordD op_le op_le_str
  | gt => exact op_ordD op_gt op_gt_str
  | ge => exact op_ordD op_ge op_ge_str
  | eq =>
    intro pins s σ H xv yv v u Q I rx ry ⟨F, z, B, x, y, K, w, hx, hy, k, pq⟩
    refine op_eqD (by omega) pins s σ H _ _ v u Q I rx ry ⟨toPy x, toPy y, RB.dp k.1.1 hx, RB.dp k.1.2 hy, okD_shaped k.1.1 (by decide), okD_shaped k.1.2 (by decide), ?_⟩
    rw [eqv_toPy]
    exact pq.bl w k.2
  | ne =>
    intro pins s σ H xv yv v u Q I rx ry ⟨F, z, B, x, y, K, w, hx, hy, k, pq⟩
    refine op_neD (by omega) pins s σ H _ _ v u Q I rx ry ⟨toPy x, toPy y, RB.dp k.1.1 hx, RB.dp k.1.2 hy, okD_shaped k.1.1 (by decide), okD_shaped k.1.2 (by decide), ?_⟩
    rw [eqv_toPy]
    exact pq.bl w k.2
  | isN =>
    intro pins s σ H xv yv v u Q I rx ry ⟨F, z, B, x, y, K, w, hx, hy, k, pq⟩
    cases y <;> try exact False.elim k
    refine op_isN pins s σ H _ _ v u Q I rx ry ⟨RB.non hy, ?_⟩
    rw [RB.isNon hx]
    exact pq.bl w k
  | isnN =>
    intro pins s σ H xv yv v u Q I rx ry ⟨F, z, B, x, y, K, w, hx, hy, k, pq⟩
    cases y <;> try exact False.elim k
    refine op_notN pins s σ H _ _ v u Q I rx ry ⟨RB.non hy, ?_⟩
    rw [RB.isNon hx]
    exact pq.bl w k
  | isB =>
    intro pins s σ H xv yv v u Q I rx ry ⟨F, z, B, x, y, K, w, hx, hy, k, pq⟩
    cases x <;> try exact False.elim k
    cases y <;> try exact False.elim k
    exact op_isBl pins s σ H _ _ v u Q I rx ry ⟨_, _, RB.bl hx, RB.bl hy, pq.bl w k⟩
  | isnB =>
    intro pins s σ H xv yv v u Q I rx ry ⟨F, z, B, x, y, K, w, hx, hy, k, pq⟩
    cases x <;> try exact False.elim k
    cases y <;> try exact False.elim k
    exact op_notBl pins s σ H _ _ v u Q I rx ry ⟨_, _, RB.bl hx, RB.bl hy, pq.bl w k⟩
  | inn =>
    intro pins s σ H xv yv v u Q I rx ry ⟨F, z, B, x, y, K, w, hx, hy, k, pq⟩
    obtain ⟨ys, e, k1, k2⟩ := bnd_iff.mp k
    obtain ⟨as, r1⟩ := Dp.reads I _ xv v (RB.dp k1.1 hx) rx
    have hys := okDs_lay ys 59 k1.2
    have hany : ((toPys ys).any fun y => y.eqv (toPy x)) = inD x ys := by
      rw [toPys_map, List.any_map]
      unfold inD
      congr 1
      funext y
      exact eqv_toPy y x
    have hr : X.A.units + 1 + min (PyData.depthAll (toPys ys)) (toPy x).depth < cLine := by
      have := (okD_lay x 59 k1.1).2
      omega
    have fin : EP X pins σ Q (.bool ((toPys ys).any fun y => y.eqv (toPy x))) s := ⟨.bl _, H, I, rfl, by rw [hany]; exact pq.bl w k2⟩
    cases y <;> simp only [itemsOf, reduceCtorEq] at e
    · injection e with e; subst e
      have hok : okD (.tup ‹_›) 60 = true := by unfold okD; rw [Bool.and_eq_true]; exact ⟨by decide, k1.2⟩
      obtain ⟨bs, r2⟩ := Dp.reads I _ yv u (RB.dp hok hy) ry
      rw [toPy] at r2
      exact SeqAt.in_tuple_reads r2 r1 hys.1 (okD_lay x 59 k1.1).1 hr fin
    · injection e with e; subst e
      have hok : okD (.lst ‹_›) 60 = true := by unfold okD; rw [Bool.and_eq_true]; exact ⟨by decide, k1.2⟩
      obtain ⟨bs, r2⟩ := Dp.reads I _ yv u (RB.dp hok hy) ry
      rw [toPy] at r2
      exact SeqAt.in_list_reads r2 r1 hys.1 (okD_lay x 59 k1.1).1 hr fin
  | nin =>
    intro pins s σ H xv yv v u Q I rx ry ⟨F, z, B, x, y, K, w, hx, hy, k, pq⟩
    obtain ⟨ys, e, k1, k2⟩ := bnd_iff.mp k
    obtain ⟨as, r1⟩ := Dp.reads I _ xv v (RB.dp k1.1 hx) rx
    have hys := okDs_lay ys 59 k1.2
    have hany : ((toPys ys).any fun y => y.eqv (toPy x)) = inD x ys := by
      rw [toPys_map, List.any_map]
      unfold inD
      congr 1
      funext y
      exact eqv_toPy y x
    have hr : X.A.units + 1 + min (PyData.depthAll (toPys ys)) (toPy x).depth < cLine := by
      have := (okD_lay x 59 k1.1).2
      omega
    have fin : EP X pins σ Q (.bool (!(toPys ys).any fun y => y.eqv (toPy x))) s := ⟨.bl _, H, I, rfl, by rw [hany]; exact pq.bl w k2⟩
    cases y <;> simp only [itemsOf, reduceCtorEq] at e
    · injection e with e; subst e
      have hok : okD (.tup ‹_›) 60 = true := by unfold okD; rw [Bool.and_eq_true]; exact ⟨by decide, k1.2⟩
      obtain ⟨bs, r2⟩ := Dp.reads I _ yv u (RB.dp hok hy) ry
      rw [toPy] at r2
      exact SeqAt.notIn_tuple_reads r2 r1 hys.1 (okD_lay x 59 k1.1).1 hr fin
    · injection e with e; subst e
      have hok : okD (.lst ‹_›) 60 = true := by unfold okD; rw [Bool.and_eq_true]; exact ⟨by decide, k1.2⟩
      obtain ⟨bs, r2⟩ := Dp.reads I _ yv u (RB.dp hok hy) ry
      rw [toPy] at r2
      exact SeqAt.notIn_list_reads r2 r1 hys.1 (okD_lay x 59 k1.1).1 hr fin
end
end TL


set_option autoImplicit false
/-! The tree layer, part 6: comparisons, logic, displays, places. -/
namespace TL
open PySem PySem.Spec PyProof.Rows L2
section
variable {X : Cx} {Γ : Gm}
theorem jf_cmp {a b : Expr} {ia ib : E} {o : COp} {pos : Pos} (hu : X.A.units + 65 < cLine) (G : GMono Γ) (ha : JB X Γ a ia) (hb : JB X Γ b ib) (hm : behindInMarks (copOf o) b = false) : JF X Γ (.Compare a [copOf o] [b] pos) (.cmp o ia ib) :=
  PE.imp (pe_cmpR (op_cmpD hu o) ha hb hm) (tr_two RF G (fun _ _ _ _ h => h) (fun σ B Q h => by unfold wpE at h; exact h) fun _ _ _ _ _ _ _ k h => RF.old k h)
/-- what a bool's end gives -/
theorem PQ.tst {F : Fr0} {z : Addr → Prop} {B : Bag} {H : Hp} {Q : Bool → Hp → Prop} (h : ∀ (t : Bool), (∀ z' H', XE F.a0 F.a1 z H z' H' → BagAt F.a0 F.a1 B H' → Q t H') → True) : True := trivial
theorem jt_cmp {a b : Expr} {ia ib : E} {o : COp} {pos : Pos} (hu : X.A.units + 65 < cLine) (G : GMono Γ) (ha : JB X Γ a ia) (hb : JB X Γ b ib) (hm : behindInMarks (copOf o) b = false) : JT X Γ (.Compare a [copOf o] [b] pos) (.cmp o ia ib) :=
  PT.imp (pt_cmpR (op_cmpD hu o) ha hb hm) fun σ H Q ⟨F, z, σa, B, sr, q⟩ => by
    unfold wpE at q
    refine two (K := fun x y B2 => cmpD o x y fun t => tst (.bl t) fun t => ∀ z' H', XE F.a0 F.a1 z H z' H' → BagAt F.a0 F.a1 B2 H' → Q t H') (R := fun xv yv H2 => R2D RF (cmpB o) xv yv H2 fun x H' => ∃ k, x = .bl k ∧ Q k H') G sr q
      fun x y B2 z2 H2 xv yv x2 sr2 rx ry k => ⟨F, z2, B2, x, y, fun d => tst d fun t => ∀ z' H', XE F.a0 F.a1 z H z' H' → BagAt F.a0 F.a1 B2 H' → Q t H', sr2.w, RB.stay sr2.w XE.refl rx, RB.stay sr2.w XE.refl ry, k, fun d z' H' v kd x' b' r' => ?_⟩
    cases d <;> try exact False.elim kd
    exact ⟨_, Rep.bl (show Rep z' F.a0 H' _ _ from r'), kd z' H' (x2.trans x') b'⟩
/-- a op b op' c, read on -/
theorem chain_tr {a b c : E} {o p : COp} (G : GMono Γ) {F : Fr0} {z : Addr → Prop} {σa : List Sl} {B : Bag} {σ : L2.St} {H : Hp} {K : Bool → Bag → Prop} {Q : VK} (sr : SR F z σa B σ H)
    (q : wpE Γ a σa B fun x B1 => wpE Γ b σa B1 fun y B2 => cmpD o x y fun t => if t = true then wpE Γ c σa B2 fun w B3 => cmpD p y w fun t => K t B3 else K false B2)
    (hK : ∀ t B' z' H', K t B' → XE F.a0 F.a1 z H z' H' → BagAt F.a0 F.a1 B' H' → Q (.bl t) H') :
    tChain (R2D RF (cmpB o)) (R2D RF (cmpB p)) (tr RB Γ a) (tr RB Γ b) (tr RB Γ c) σ H Q := by
  refine two (K := fun x y B2 => cmpD o x y fun t => if t = true then wpE Γ c σa B2 fun w B3 => cmpD p y w fun t => K t B3 else K false B2)
    (R := fun xv yv H2 => R2D RF (cmpB o) xv yv H2 fun z' H3 => ∃ k, z' = .bl k ∧ (if k = true then tr RB Γ c σ H3 fun w' H4 => R2D RF (cmpB p) yv w' H4 Q else Q (.bl false) H3)) G sr q
    fun x y B2 z2 H2 xv yv x2 sr2 rx ry k => ⟨F, z2, B2, x, y, fun d => tst d fun t => if t = true then wpE Γ c σa B2 fun w B3 => cmpD p y w fun t => K t B3 else K false B2, sr2.w, RB.stay sr2.w XE.refl rx, RB.stay sr2.w XE.refl ry, k, fun d z3 H3 v kd x3 b3 r3 => ?_⟩
  cases d <;> try exact False.elim kd
  rename_i t
  refine ⟨t, Rep.bl (show Rep z3 F.a0 H3 _ _ from r3), ?_⟩
  cases t with
  | false => exact hK false B2 z3 H3 kd (x2.trans x3) b3
  | true =>
    refine ⟨F, z3, σa, B2, sr2.step x3 b3, wpE_mono G _ _ _ _ _ (fun w B3 h3 z4 H4 wv x4 b4 r4 => ?_) kd⟩
    have sr4 := (sr2.step x3 b3).step x4 b4
    refine ⟨F, z4, B3, y, w, fun d => tst d fun t => K t B3, sr4.w, RB.stay sr2.w (x3.trans x4) ry, RB.stay sr4.w XE.refl r4, h3, fun d z5 H5 v kd x5 b5 r5 => ?_⟩
    cases d <;> try exact False.elim kd
    rw [Rep.bl (show Rep z5 F.a0 H5 _ _ from r5)]
    exact hK _ B3 z5 H5 kd (x2.trans (x3.trans (x4.trans x5))) b5
theorem jf_chn {a b c : Expr} {ia ib ic : E} {o p : COp} {pos : Pos} (hu : X.A.units + 65 < cLine) (G : GMono Γ) (ha : JB X Γ a ia) (hb : JB X Γ b ib) (hc : JB X Γ c ic) (hm : lastMarks [copOf o, copOf p] [b, c] = false) :
    JF X Γ (.Compare a [copOf o, copOf p] [b, c] pos) (.chn o p ia ib ic) :=
  PE.imp (pe_chain (op_cmpD hu o) (op_cmpD hu p) ha hb hc hm) fun σ H Q ⟨F, z, σa, B, sr, q⟩ => by
    unfold wpE at q
    exact chain_tr (K := fun t B' => ∀ z' H' v, XE F.a0 F.a1 z H z' H' → BagAt F.a0 F.a1 B' H' → RF F H z' H' (.bl t) v → Q v H') G sr q fun t B' z' H' k x b => k z' H' _ x b (show Rep z' F.a0 H' (.bl t) _ from rep_bl)
theorem jt_chn {a b c : Expr} {ia ib ic : E} {o p : COp} {pos : Pos} (hu : X.A.units + 65 < cLine) (G : GMono Γ) (ha : JB X Γ a ia) (hb : JB X Γ b ib) (hc : JB X Γ c ic) (hm : lastMarks [copOf o, copOf p] [b, c] = false) :
    JT X Γ (.Compare a [copOf o, copOf p] [b, c] pos) (.chn o p ia ib ic) :=
  PT.imp (pt_chain (op_cmpD hu o) (op_cmpD hu p) ha hb hc hm) fun σ H Q ⟨F, z, σa, B, sr, q⟩ => by
    unfold wpE at q
    exact chain_tr (Q := fun x H' => ∃ k, x = .bl k ∧ Q k H') (K := fun t B' => ∀ z' H', XE F.a0 F.a1 z H z' H' → BagAt F.a0 F.a1 B' H' → Q t H') G sr q fun t B' z' H' k x b => ⟨t, rfl, k z' H' x b⟩

/-! ### not, and, or -/
theorem jf_not {a : Expr} {ia : E} {pos : Pos} (G : GMono Γ) (ha : JE X Γ a ia) : JF X Γ (.UnaryOp .Not a pos) (.nt ia) :=
  PE.imp (pe_not ha) fun σ H Q ⟨F, z, σa, B, sr, q⟩ => by
    unfold wpE at q
    refine ⟨F, z, σa, B, sr, wpE_mono G _ _ _ _ _ (fun d B' k z' H' v x b r => ?_) q⟩
    cases d <;> try exact False.elim k
    exact ⟨_, Rep.bl r, k z' H' _ x b (show Rep z' F.a0 H' (.bl _) (.bl _) from rep_bl)⟩
theorem jt_not {a : Expr} {ia : E} {pos : Pos} (G : GMono Γ) (ha : JT X Γ a ia) : JT X Γ (.UnaryOp .Not a pos) (.nt ia) :=
  PT.imp (pt_not ha) fun σ H Q ⟨F, z, σa, B, sr, q⟩ => by
    unfold wpE at q
    refine ⟨F, z, σa, B, sr, wpE_mono G _ _ _ _ _ (fun d B' k => ?_) q⟩
    cases d <;> try exact False.elim k
    exact fun z' H' x b => k z' H' x b
theorem je_an {a b : Expr} {rest : List Expr} {ia ib : E} {pos : Pos} (G : GMono Γ) (ha : JE X Γ a ia) (hb : JE X Γ (.BoolOp .And (b :: rest) pos) ib) : JE X Γ (.BoolOp .And (a :: b :: rest) pos) (.an ia ib) :=
  PE.imp (pe_and ha hb) fun σ H Q ⟨F, z, σa, B, sr, q⟩ => by
    unfold wpE at q
    refine ⟨F, z, σa, B, sr, wpE_mono G _ _ _ _ _ (fun d B' k z' H' v x b r => ?_) q⟩
    cases d <;> try exact False.elim k
    rename_i t
    refine ⟨t, Rep.bl r, ?_⟩
    cases t with
    | false => exact k z' H' _ x b rep_bl
    | true =>
      refine ⟨F, z', σa, B', sr.step x b, wpE_mono G _ _ _ _ _ (fun d2 B2 k2 z2 H2 v2 x2 b2 r2 => ?_) k⟩
      cases d2 <;> try exact False.elim k2
      exact k2 z2 H2 v2 (x.trans x2) b2 r2
theorem je_or {a b : Expr} {rest : List Expr} {ia ib : E} {pos : Pos} (G : GMono Γ) (ha : JE X Γ a ia) (hb : JE X Γ (.BoolOp .Or (b :: rest) pos) ib) : JE X Γ (.BoolOp .Or (a :: b :: rest) pos) (.or ia ib) :=
  PE.imp (pe_or ha hb) fun σ H Q ⟨F, z, σa, B, sr, q⟩ => by
    unfold wpE at q
    refine ⟨F, z, σa, B, sr, wpE_mono G _ _ _ _ _ (fun d B' k z' H' v x b r => ?_) q⟩
    cases d <;> try exact False.elim k
    rename_i t
    refine ⟨t, Rep.bl r, ?_⟩
    cases t with
    | true => exact k z' H' _ x b rep_bl
    | false =>
      refine ⟨F, z', σa, B', sr.step x b, wpE_mono G _ _ _ _ _ (fun d2 B2 k2 z2 H2 v2 x2 b2 r2 => ?_) k⟩
      cases d2 <;> try exact False.elim k2
      exact k2 z2 H2 v2 (x.trans x2) b2 r2
theorem jw_an {a b : Expr} {rest : List Expr} {ia ib : E} {pos : Pos} (G : GMono Γ) (ha : JT X Γ a ia) (hb : JW X Γ (.BoolOp .And (b :: rest) pos) ib) : JW X Γ (.BoolOp .And (a :: b :: rest) pos) (.an ia ib) :=
  PW.imp (pw_and ha hb) fun σ H Q ⟨F, z, σa, B, sr, q⟩ => by
    unfold wpE at q
    refine ⟨F, z, σa, B, sr, wpE_mono G _ _ _ _ _ (fun d B' k => ?_) q⟩
    cases d <;> try exact False.elim k
    rename_i t
    cases t with
    | false => exact fun z' H' x b => k z' H' x b
    | true =>
      intro z' H' x b
      refine ⟨F, z', σa, B', sr.step x b, wpE_mono G _ _ _ _ _ (fun d2 B2 k2 => ?_) k⟩
      cases d2 <;> try exact False.elim k2
      exact fun z2 H2 x2 b2 => k2 z2 H2 (x.trans x2) b2
theorem jw_or {a b : Expr} {rest : List Expr} {ia ib : E} {pos : Pos} (G : GMono Γ) (ha : JT X Γ a ia) (hb : JW X Γ (.BoolOp .Or (b :: rest) pos) ib) : JW X Γ (.BoolOp .Or (a :: b :: rest) pos) (.or ia ib) :=
  PW.imp (pw_or ha hb) fun σ H Q ⟨F, z, σa, B, sr, q⟩ => by
    unfold wpE at q
    refine ⟨F, z, σa, B, sr, wpE_mono G _ _ _ _ _ (fun d B' k => ?_) q⟩
    cases d <;> try exact False.elim k
    rename_i t
    cases t with
    | true => exact fun z' H' x b => k z' H' x b
    | false =>
      intro z' H' x b
      refine ⟨F, z', σa, B', sr.step x b, wpE_mono G _ _ _ _ _ (fun d2 B2 k2 => ?_) k⟩
      cases d2 <;> try exact False.elim k2
      exact fun z2 H2 x2 b2 => k2 z2 H2 (x.trans x2) b2
/-- a if c else b -/
theorem j_ite {R : RR} {c a b : Expr} {ic ia ib : E} {pos : Pos} (G : GMono Γ) (hR : ∀ F (H0 H1 : Hp) z H d v, (∀ p, H1 p = none → H0 p = none) → R F H1 z H d v → R F H0 z H d v)
    (hc : JT X Γ c ic) (ha : PE X a (tr R Γ ia)) (hb : PE X b (tr R Γ ib)) : PE X (.IfExp c a b pos) (tr R Γ (.ite ic ia ib)) :=
  PE.imp (pe_ifExp hc ha hb) fun σ H Q ⟨F, z, σa, B, sr, q⟩ => by
    unfold wpE at q
    refine ⟨F, z, σa, B, sr, wpE_mono G _ _ _ _ _ (fun d B' k => ?_) q⟩
    cases d <;> try exact False.elim k
    rename_i t
    intro z' H' x b
    cases t with
    | true => exact ⟨F, z', σa, B', sr.step x b, wpE_mono G _ _ _ _ _ (fun d2 B2 k2 z2 H2 v2 x2 b2 r2 => k2 z2 H2 v2 (x.trans x2) b2 (hR _ _ _ _ _ _ _ x.dm r2)) k⟩
    | false => exact ⟨F, z', σa, B', sr.step x b, wpE_mono G _ _ _ _ _ (fun d2 B2 k2 z2 H2 v2 x2 b2 r2 => k2 z2 H2 v2 (x.trans x2) b2 (hR _ _ _ _ _ _ _ x.dm r2)) k⟩

/-! ### argument lists, displays -/
theorem ja_nil {R : RRs} (h : ∀ F z H, R F z H [] []) : PA X [] (trA R Γ []) :=
  PA.imp pa_nil fun σ H Q ⟨F, z, σa, B, sr, q⟩ => by
    unfold wpEs at q
    exact q z H [] XE.refl sr.w.bag (h F z H)
theorem ja_cons {e : Expr} {es : List Expr} {ir : E} {irs : List E} (G : GMono Γ) (he : JE X Γ e ir) (hes : JA X Γ es irs) (hs : starEach (e :: es) X.env = (false, eval e X.env) :: starEach es X.env) : JA X Γ (e :: es) (ir :: irs) :=
  PA.imp (pa_cons he hes hs) fun σ H Q ⟨F, z, σa, B, sr, q⟩ => by
    unfold wpEs at q
    exact ⟨F, z, σa, B, sr, wpE_mono G _ _ _ _ _ (fun d B1 k z1 H1 v x1 b1 r1 => ⟨F, z1, σa, B1, sr.step x1 b1, wpEs_mono G _ _ _ _ _ (fun ds B2 k2 z2 H2 vs x2 b2 r2 =>
      k2 z2 H2 (v :: vs) (x1.trans x2) b2 (Reps.cons (r1.stay (x2.xs (x1.wok sr.w b1))) r2)) k⟩) q⟩
theorem jab_cons {e : Expr} {es : List Expr} {ir : E} {irs : List E} (G : GMono Γ) (he : JB X Γ e ir) (hes : JAB X Γ es irs) (hs : starEach (e :: es) X.env = (false, eval e X.env) :: starEach es X.env) : JAB X Γ (e :: es) (ir :: irs) :=
  PA.imp (pa_cons he hes hs) fun σ H Q ⟨F, z, σa, B, sr, q⟩ => by
    unfold wpEs at q
    exact ⟨F, z, σa, B, sr, wpE_mono G _ _ _ _ _ (fun d B1 k z1 H1 v x1 b1 r1 => ⟨F, z1, σa, B1, sr.step x1 b1, wpEs_mono G _ _ _ _ _ (fun ds B2 k2 z2 H2 vs x2 b2 r2 =>
      k2 z2 H2 (v :: vs) (x1.trans x2) b2 ⟨v, vs, rfl, RB.stay (x1.wok sr.w b1) x2 r1, r2⟩) k⟩) q⟩
theorem wpEs_len (G : GMono Γ) : ∀ (es : List E) (σ : List Sl) (B : Bag) (Q : List D → Bag → Prop), wpEs Γ es σ B Q → wpEs Γ es σ B fun ds B' => ds.length = es.length ∧ Q ds B'
  | [], σ, B, Q, h => ⟨rfl, h⟩
  | e :: es, σ, B, Q, h => by
    unfold wpEs at h ⊢
    exact wpE_mono G _ _ _ _ _ (fun d B1 k => wpEs_mono G _ _ _ _ _ (fun ds B2 k2 => ⟨by simp [k2.1], k2.2⟩) (wpEs_len G es σ B1 _ k)) h
theorem jf_tup {es : List Expr} {irs : List E} {k : Nat} {pos : Pos} (G : GMono Γ) (h : JA X Γ es irs) (hl : irs.length ≤ 1000) : JF X Γ (.Tuple es k pos) (.tup irs) :=
  PE.imp (pe_tup h) fun σ H Q ⟨F, z, σa, B, sr, q⟩ => by
    unfold wpE at q
    refine ⟨F, z, σa, B, sr, wpEs_mono G _ _ _ _ _ (fun ds B1 k z1 H1 vs x1 b1 r1 => ⟨?_, fun p np => ?_⟩) (wpEs_len G _ _ _ _ q)⟩
    · have r1 : Reps z1 F.a0 H1 ds vs := r1
      rw [← r1.length, k.1, LIM_eq]
      exact Nat.le_trans hl (by decide)
    · have w1 := x1.wok sr.w b1
      exact k.2 z1 _ _ (x1.trans (XE.new np)) (b1.new np) (show Rep z1 F.a0 _ (.tup ds) _ from rep_tup upd_same (Reps.stay ((XE.new (a0 := F.a0) (a1 := F.a1) np).xs w1) r1))
theorem jf_lst {es : List Expr} {irs : List E} {pos : Pos} (G : GMono Γ) (h : JA X Γ es irs) (hl : irs.length ≤ 1000) : JF X Γ (.List es pos) (.lst irs) :=
  PE.imp (pe_lst h) fun σ H Q ⟨F, z, σa, B, sr, q⟩ => by
    unfold wpE at q
    refine ⟨F, z, σa, B, sr, wpEs_mono G _ _ _ _ _ (fun ds B1 k z1 H1 vs x1 b1 r1 => ⟨?_, fun p np => ?_⟩) (wpEs_len G _ _ _ _ q)⟩
    · have r1 : Reps z1 F.a0 H1 ds vs := r1
      rw [← r1.length, k.1, LIM_eq]
      exact Nat.le_trans hl (by decide)
    · have w1 := x1.wok sr.w b1
      exact k.2 z1 _ _ (x1.trans (XE.new np)) (b1.new np) ⟨p, vs, rfl, x1.dm p np, w1.fresh np, upd_same, Reps.stay ((XE.new (a0 := F.a0) (a1 := F.a1) np).xs w1) r1⟩

/-! ### places and slices -/
theorem Reps.atI {z : Addr → Prop} {a0 : Addr} {H : Hp} {ds : List D} {vs : List V} {i : Int} {d : D} (r : Reps z a0 H ds vs) (h : L2.atI ds i = some d) : ∃ v, L2.atI vs i = some v ∧ Rep z a0 H d v := by
  unfold L2.atI at h ⊢
  rw [← r.length]
  cases e : ixN ds.length i with
  | none => rw [e] at h; cases h
  | some j =>
    rw [e] at h
    exact r.get (show ds[j]? = some d from h)
theorem ix_D : IxR X (R2D RV atD) := by
  intro value slice pins s σ H xv yv v u Q I rx ry ⟨F, z, B, x, y, K, w, hx, hy, k, pq⟩ hs
  cases y <;> try exact False.elim k
  rename_i i
  have ey := RB.int hy
  subst ey
  cases x <;> try exact False.elim k
  · rename_i c
    obtain rfl := RB.str hx
    obtain ⟨kl, k⟩ := k
    obtain ⟨ch, e, k⟩ := bnd_iff.mp k
    exact ix_str value slice pins s σ H _ _ v u Q I rx ry ⟨c, i, ch, rfl, rfl, by rw [LIM_eq]; exact kl, e, pq.same w k (show Rep z F.a0 H (.str _) _ from rep_str)⟩ hs
  · obtain ⟨p, vs, rfl, e, r⟩ := RB.tup hx
    obtain ⟨d, ed, k⟩ := bnd_iff.mp k
    obtain ⟨dv, ev, rd⟩ := r.atI ed
    exact ix_tup value slice pins s σ H _ _ v u Q I rx ry ⟨p, vs, i, dv, rfl, rfl, SqT.of e, ev, pq.same w k rd⟩ hs
  · obtain ⟨p, vs, rfl, _, e, r⟩ := hx
    obtain ⟨d, ed, k⟩ := bnd_iff.mp k
    obtain ⟨dv, ev, rd⟩ := r.atI ed
    exact ix_list value slice pins s σ H _ _ v u Q I rx ry ⟨p, vs, i, dv, rfl, rfl, SqL.of e, ev, pq.same w k rd⟩ hs
theorem je_idx {a b : Expr} {ia ib : E} {pos : Pos} (G : GMono Γ) (ha : JB X Γ a ia) (hb : JB X Γ b ib) (hp : PlainIx b) : JE X Γ (.Subscript a b pos) (.idx ia ib) :=
  PE.imp (pe_ix ix_D ha hb hp) (tr_two RV G (fun _ _ _ _ h => h) (fun σ B Q h => by unfold wpE at h; exact h) fun _ _ _ _ _ _ _ _ h => h)
/-- an end of a slice -/
def trP (Γ : Gm) (e : E) : TO := fun σ H Q => ∃ F z σa B, SR F z σa B σ H ∧
  wpE Γ e σa B fun d B' => partD (absE e) d fun o => ∀ z' H', XE F.a0 F.a1 z H z' H' → BagAt F.a0 F.a1 B' H' → Q o H'
abbrev JP (X : Cx) (Γ : Gm) (e : Option Expr) (ir : E) : Prop := PO X e (trP Γ ir)
theorem jp_none : JP X Γ none .non := PO.imp po_none fun σ H Q ⟨F, z, σa, B, sr, q⟩ => by
  unfold wpE at q
  exact q z H XE.refl sr.w.bag
theorem jp_some {e : Expr} {ir : E} (G : GMono Γ) (h : JB X Γ e ir) (hn : absE ir = false) : JP X Γ (some e) ir := PO.imp (po_some h) fun σ H Q ⟨F, z, σa, B, sr, q⟩ => by
  refine ⟨F, z, σa, B, sr, wpE_mono G _ _ _ _ _ (fun d B' k z' H' v x b r => ?_) q⟩
  rw [hn] at k
  cases d <;> try exact False.elim k
  exact ⟨_, RB.int r, k z' H' x b⟩
theorem cut_eq {z : Addr → Prop} {a0 : Addr} {H : Hp} {ds : List D} {vs : List V} (r : Reps z a0 H ds vs) (lo hi : Option Int) : Reps z a0 H (cutD ds lo hi) (cutV vs lo hi) := by
  unfold cutD cutV
  rw [← r.length]
  exact (r.drop _).take _
def SlD : V → Option Int → Option Int → Hp → VK → Prop := fun xv lo hi H Q => ∃ F z B x K, WOk F.a0 F.a1 z B H ∧ RB F H z H x xv ∧
  sliD x lo hi K ∧ PQ RF F z B H K Q
theorem sl_D : SlR X SlD := by
  intro pins s σ H xv v vl vu lo hi sl Q I rx hsl p1 p2 ⟨F, z, B, x, K, w, hx, k, pq⟩
  cases x <;> try exact False.elim k
  · rename_i t
    obtain rfl := RB.str hx
    exact sl_str pins s σ H _ v vl vu lo hi sl Q I rx hsl p1 p2 ⟨t, rfl, by rw [LIM_eq]; exact k.1, pq.str w k.2⟩
  · rename_i xs
    obtain ⟨p, vs, rfl, e, r⟩ := RB.tup hx
    refine sl_tupA pins s σ H _ v vl vu lo hi sl Q I rx hsl p1 p2 ⟨p, vs, rfl, SqT.of e, fun hw => ?_, fun _ n np => pq.tup w k np (cut_eq r lo hi)⟩
    have ec : cutD xs lo hi = xs := by
      unfold cutD
      rw [r.length, hw.1, hw.2]
      simp [← r.length]
    have k' : K (.tup (cutD xs lo hi)) := k
    rw [ec] at k'
    exact pq.same w k' hx
  · rename_i xs
    obtain ⟨p, vs, rfl, _, e, r⟩ := hx
    exact sl_list pins s σ H _ v vl vu lo hi sl Q I rx hsl p1 p2 ⟨p, vs, rfl, SqL.of e, fun n np => pq.lst w k np (cut_eq r lo hi)⟩
theorem jf_slc {a : Expr} {lo hi : Option Expr} {ia il ih : E} {pos p2 : Pos} (G : GMono Γ) (ha : JB X Γ a ia) (hl : JP X Γ lo il) (hh : JP X Γ hi ih) : JF X Γ (.Subscript a (.Slice lo hi none p2) pos) (.slc ia il ih) :=
  PE.imp (pe_slice sl_D ha hl hh) fun σ H Q ⟨F, z, σa, B, sr, q⟩ => by
    unfold wpE at q
    refine ⟨F, z, σa, B, sr, wpE_mono G _ _ _ _ _ (fun x B1 k z1 H1 xv x1 b1 r1 => ?_) q⟩
    refine ⟨F, z1, σa, B1, sr.step x1 b1, wpE_mono G _ _ _ _ _ (fun l B2 k2 => partD_mono (fun o k3 z2 H2 x2 b2 => ?_) k2) k⟩
    refine ⟨F, z2, σa, B2, (sr.step x1 b1).step x2 b2, wpE_mono G _ _ _ _ _ (fun h B3 k4 => partD_mono (fun o' k5 z3 H3 x3 b3 => ?_) k4) k3⟩
    have sr3 := ((sr.step x1 b1).step x2 b2).step x3 b3
    have x13 := x2.trans x3
    refine ⟨F, z3, B3, x, _, sr3.w, RB.stay (x1.wok sr.w b1) x13 r1, k5, fun d z' H' v kd x' b' r' => ?_⟩
    have xa := x1.trans x13
    exact kd z' H' v (xa.trans x') b' (RF.old xa.dm r')
end
end TL


set_option autoImplicit false
/-! The tree layer, part 7: calls. -/
namespace TL
open PySem PySem.Spec PyProof.Rows L2
section
variable {X : Cx} {Γ : Gm}
/-- what a def of this layer promises -/
def spOf (n : Nat) (sem : Sm) : Sp := fun vs H Q _ => ∃ a0 a1 z B ds, WOk a0 a1 z B H ∧ Reps z a0 H ds vs ∧ ds.length = n ∧
  sem ds B fun d B' => ∀ z' H' v, XE a0 a1 z H z' H' → BagAt a0 a1 B' H' → Rep z' a0 H' d v → Q v H'
theorem spOf_len {n : Nat} {sem : Sm} {ps : List Str} (h : ps.length = n) : ∀ vs H Q E, spOf n sem vs H Q E → vs.length = ps.length := fun vs H Q E ⟨a0, a1, z, B, ds, w, r, l, _⟩ => by
  rw [← r.length, l, h]
theorem je_call {e : Expr} {es : List Expr} {irs : List E} {i : Nat} {sem : Sm} {k : Nat} {f : Addr} {fd : FuncData} {ps : List Str} {x : Str} {p pos : Pos} (G : GMono Γ) (hΓ : Γ i = sem)
    (F : FnOk X.prog X.w X.K X.mg X.base CX0 k f fd ps (spOf ps.length sem)) (hr : Room k X.A) (hg : Gl X x) (hm : X.mg x = some (.ref f)) (hk : PySem.W.keepIn X.K (.ref f) = true) (hb : Binds X.K fd ps [])
    (ha : JA X Γ (e :: es) irs) (hl : irs.length = ps.length) (hdb : (x == ("__debug__" : Str)) = false) (he : starEach (e :: es) X.env = (false, eval e X.env) :: starEach es X.env) (hpl : (backTo pos (starEach es X.env)).any (·.1) = false) :
    JE X Γ (.Call (.Name x p) (e :: es) [] pos) (.call i irs) :=
  PE.imp (pe_call F hr hg hm hk hb .nil pass0 ha hdb he hpl) fun σ H Q ⟨Fr, z, σa, B, sr, q⟩ => by
    unfold wpE at q
    refine ⟨Fr, z, σa, B, sr, wpEs_mono G _ _ _ _ _ (fun ds B1 k z1 H1 vs x1 b1 r1 => ?_) (wpEs_len G _ _ _ _ q)⟩
    rw [hΓ] at k
    rw [List.append_nil]
    refine ⟨Fr.a0, Fr.a1, z1, B1, ds, x1.wok sr.w b1, r1, k.1.trans hl, ?_⟩
    rw [← hΓ] at k ⊢
    exact G _ _ _ _ _ (fun d B2 kd z2 H2 v x2 b2 r2 => kd z2 H2 v (x1.trans x2) b2 r2) k.2
theorem je_call0 {i : Nat} {sem : Sm} {k : Nat} {f : Addr} {fd : FuncData} {ps : List Str} {x : Str} {p pos : Pos} (G : GMono Γ) (hΓ : Γ i = sem)
    (F : FnOk X.prog X.w X.K X.mg X.base CX0 k f fd ps (spOf ps.length sem)) (hr : Room k X.A) (hg : Gl X x) (hm : X.mg x = some (.ref f)) (hk : PySem.W.keepIn X.K (.ref f) = true) (hb : Binds X.K fd ps [])
    (hl : ps.length = 0) (hdb : (x == ("__debug__" : Str)) = false) :
    JE X Γ (.Call (.Name x p) [] [] pos) (.call i []) :=
  PE.imp (pe_call0 F hr hg hm hk hb .nil pass0 hdb) fun σ H Q ⟨Fr, z, σa, B, sr, q⟩ => by
    unfold wpE wpEs at q
    show spOf ps.length sem ([] ++ []) H Q E0
    refine ⟨Fr.a0, Fr.a1, z, B, [], sr.w, Reps.nil, hl.symm, ?_⟩
    rw [← hΓ]
    exact q
/-! keywords -/
theorem wpEs_append (G : GMono Γ) : ∀ (a b : List E) (σ : List Sl) (B : Bag) (Q : List D → Bag → Prop), wpEs Γ (a ++ b) σ B Q → wpEs Γ a σ B fun ds B1 => wpEs Γ b σ B1 fun es B2 => Q (ds ++ es) B2
  | [], b, σ, B, Q, h => h
  | e :: a, b, σ, B, Q, h => by
    rw [List.cons_append] at h
    unfold wpEs at h ⊢
    exact wpE_mono G _ _ _ _ _ (fun d B1 k => wpEs_append G a b σ B1 (fun ds B2 => Q (d :: ds) B2) k) h
def permV (vs : List V) : List Nat → List V
  | [] => []
  | j :: js => vs.getD j .non :: permV vs js
def permU (vs : List Value) : List Nat → List Value
  | [] => []
  | j :: js => vs.getD j .none :: permU vs js
theorem Reps.perm {z : Addr → Prop} {a0 : Addr} {H : Hp} {ds : List D} {vs : List V} (r : Reps z a0 H ds vs) : ∀ js : List Nat, Reps z a0 H (permD ds js) (permV vs js)
  | [] => Reps.nil
  | j :: js => by
    unfold permD permV
    refine Reps.cons ?_ (r.perm js)
    rw [List.getD_eq_getElem?_getD, List.getD_eq_getElem?_getD]
    cases e : ds[j]? with
    | none =>
      have e2 : vs[j]? = none := by
        rw [List.getElem?_eq_none_iff] at e ⊢
        rw [← r.length]; exact e
      rw [e2]; exact rep_non
    | some d =>
      obtain ⟨v, ev, rv⟩ := r.get e
      rw [ev]; exact rv
theorem perm_rel {vs : List V} {us : List Value} (r : Vals vs us) : ∀ js : List Nat, Vals (permV vs js) (permU us js)
  | [] => .nil
  | j :: js => by
    unfold permV permU
    refine .cons ?_ (perm_rel r js)
    rw [List.getD_eq_getElem?_getD, List.getD_eq_getElem?_getD]
    cases e : vs[j]? with
    | none =>
      rw [r.none_of e]
      exact (rfl : Value.none = Value.none)
    | some v =>
      obtain ⟨u, eu, ru⟩ := r.get e
      rw [eu]; exact ru
theorem permD_len (ds : List D) : ∀ js : List Nat, (permD ds js).length = js.length
  | [] => rfl
  | j :: js => by simp [permD, permD_len ds js]
/-- a call with keywords binds so -/
def KwB (K : PySem.W.Frag) (fd : FuncData) (ps : List Str) (n : Nat) (ks : List Str) (perm : List Nat) : Prop :=
  ∀ (s : Shared) (us ws : List Value), K.In s.heap → us.length = n → ws.length = ks.length → BindsTo s fd ⟨us, ks.zip ws⟩ (ps.zip (permU (us ++ ws) perm))
theorem KwB.kbn {K : PySem.W.Frag} {fd : FuncData} {ps : List Str} {n : Nat} {ks : List Str} {perm : List Nat} (h : KwB K fd ps n ks perm) : KBn K fd ps n ks (fun us ws => permU (us ++ ws) perm) (fun vs zs => permV (vs ++ zs) perm) :=
  ⟨h, fun r1 r2 => perm_rel (r1.append r2) perm⟩
abbrev JK (X : Cx) (Γ : Gm) (kws : List Keyword) (irs : List E) : Prop := PK X kws (trA RVs Γ irs)
theorem jk_nil : JK X Γ [] [] := PK.imp pk_nil fun σ H Q ⟨F, z, σa, B, sr, q⟩ => by
  unfold wpEs at q
  exact q z H [] XE.refl sr.w.bag Reps.nil
theorem jk_cons {nm : Option Str} {e : Expr} {kpos : Pos} {kws : List Keyword} {ir : E} {irs : List E} (G : GMono Γ) (he : JE X Γ e ir) (hes : JK X Γ kws irs) : JK X Γ (⟨nm, e, kpos⟩ :: kws) (ir :: irs) :=
  PK.imp (pk_cons he hes) fun σ H Q ⟨F, z, σa, B, sr, q⟩ => by
    unfold wpEs at q
    exact ⟨F, z, σa, B, sr, wpE_mono G _ _ _ _ _ (fun d B1 k z1 H1 v x1 b1 r1 => ⟨F, z1, σa, B1, sr.step x1 b1, wpEs_mono G _ _ _ _ _ (fun ds B2 k2 z2 H2 vs x2 b2 r2 =>
      k2 z2 H2 (v :: vs) (x1.trans x2) b2 (Reps.cons (r1.stay (x2.xs (x1.wok sr.w b1))) r2)) k⟩) q⟩
theorem pe_callN0 {CX : CXT} {k : Nat} {f : Addr} {fd : FuncData} {ps ks : List Str} {sp : Sp} {E : XK} {x : Str} {p pos : Pos} {kws : List Keyword} {tk : TA} {g : List Value → List Value → List Value} {gV : List V → List V → List V}
    (F : FnOk X.prog X.w X.K X.mg X.base CX k f fd ps sp) (hr : Room k X.A) (hg : Gl X x) (hm : X.mg x = some (.ref f)) (hk : PySem.W.keepIn X.K (.ref f) = true) (hb : KBn X.K fd ps 0 ks g gV) (hx : Passes CX X E)
    (hkw : PK X kws tk) (hall : (backToKw pos (keywordEach kws X.env)).all (·.1.isSome) = true) (hks : (backToKw pos (keywordEach kws X.env)).filterMap (·.1) = ks)
    (hdb : (x == ("__debug__" : Str)) = false) (hpl : ((backTo pos (starEach [] X.env)).any (·.1) || (backToKw pos (keywordEach kws X.env)).any (·.1.isNone)) = false) :
    PE X (.Call (.Name x p) [] kws pos) (fun σ H Q => tk σ H fun zs H2 => zs.length = ks.length ∧ sp (gV [] zs) H2 Q E) := by
  refine ⟨fun pins s σ H Q I h => ?_⟩
  refine wpAny_Call_Name_kw (ld_glob I hg hm ?_ hdb)
  refine PySem.W.callWith_KW0 (h₀ := X.base) I.ok.mod.kin hk hall ?_ hpl
  refine thn (hkw.run pos pins s σ H _ I h) fun ws s2 ⟨zs, H2, I2, rz, l2, q2⟩ => ⟨I2.kIn, ?_⟩
  rw [hks]
  exact run_fnN (us := []) (vs := []) F hr hb hx I2 .nil rz rfl l2 q2
theorem je_calk {e : Expr} {es : List Expr} {kws : List Keyword} {irs irk : List E} {perm : List Nat} {i n : Nat} {sem : Sm} {k : Nat} {f : Addr} {fd : FuncData} {ps ks : List Str} {x : Str} {p pos : Pos} (G : GMono Γ) (hΓ : Γ i = sem)
    (F : FnOk X.prog X.w X.K X.mg X.base CX0 k f fd ps (spOf ps.length sem)) (hr : Room k X.A) (hg : Gl X x) (hm : X.mg x = some (.ref f)) (hk : PySem.W.keepIn X.K (.ref f) = true) (hb : KwB X.K fd ps irs.length ks perm)
    (ha : JA X Γ (e :: es) irs) (hkw : JK X Γ kws irk) (hl : irk.length = ks.length) (hpm : perm.length = ps.length) (hall : (backToKw pos (keywordEach kws X.env)).all (·.1.isSome) = true) (hks : (backToKw pos (keywordEach kws X.env)).filterMap (·.1) = ks)
    (hdb : (x == ("__debug__" : Str)) = false) (he : starEach (e :: es) X.env = (false, eval e X.env) :: starEach es X.env)
    (hpl : ((backTo pos (starEach (e :: es) X.env)).any (·.1) || (backToKw pos (keywordEach kws X.env)).any (·.1.isNone)) = false) :
    JE X Γ (.Call (.Name x p) (e :: es) kws pos) (.calk i (irs ++ irk) perm) :=
  PE.imp (pe_callN F hr hg hm hk hb.kbn pass0 ha hkw hall hks hdb he hpl) fun σ H Q ⟨Fr, z, σa, B, sr, q⟩ => by
    unfold wpE at q
    have q := wpEs_len G _ _ _ _ (wpEs_append G _ _ _ _ _ q)
    refine ⟨Fr, z, σa, B, sr, wpEs_mono G _ _ _ _ _ (fun ds B1 k z1 H1 vs x1 b1 r1 => ⟨Fr, z1, σa, B1, sr.step x1 b1, wpEs_mono G _ _ _ _ _ (fun es B2 k2 z2 H2 zs x2 b2 r2 => ?_) (wpEs_len G _ _ _ _ k.2)⟩) q⟩
    have r1 : Reps z1 Fr.a0 H1 ds vs := r1
    have r2 : Reps z2 Fr.a0 H2 es zs := r2
    have w1 := x1.wok sr.w b1
    have r12 := (r1.stay (x2.xs w1)).append r2
    refine ⟨by rw [← r1.length, k.1], by rw [← r2.length, k2.1, hl], Fr.a0, Fr.a1, z2, B2, permD (ds ++ es) perm, x2.wok w1 b2, r12.perm perm, by rw [permD_len, hpm], ?_⟩
    rw [← hΓ]
    exact G _ _ _ _ _ (fun d B3 kd z3 H3 v x3 b3 r3 => kd z3 H3 v ((x1.trans x2).trans x3) b3 r3) k2.2
theorem je_calk0 {kws : List Keyword} {irk : List E} {perm : List Nat} {i : Nat} {sem : Sm} {k : Nat} {f : Addr} {fd : FuncData} {ps ks : List Str} {x : Str} {p pos : Pos} (G : GMono Γ) (hΓ : Γ i = sem)
    (F : FnOk X.prog X.w X.K X.mg X.base CX0 k f fd ps (spOf ps.length sem)) (hr : Room k X.A) (hg : Gl X x) (hm : X.mg x = some (.ref f)) (hk : PySem.W.keepIn X.K (.ref f) = true) (hb : KwB X.K fd ps 0 ks perm)
    (hkw : JK X Γ kws irk) (hl : irk.length = ks.length) (hpm : perm.length = ps.length) (hall : (backToKw pos (keywordEach kws X.env)).all (·.1.isSome) = true) (hks : (backToKw pos (keywordEach kws X.env)).filterMap (·.1) = ks)
    (hdb : (x == ("__debug__" : Str)) = false) (hpl : ((backTo pos (starEach [] X.env)).any (·.1) || (backToKw pos (keywordEach kws X.env)).any (·.1.isNone)) = false) :
    JE X Γ (.Call (.Name x p) [] kws pos) (.calk i irk perm) :=
  PE.imp (pe_callN0 F hr hg hm hk hb.kbn pass0 hkw hall hks hdb hpl) fun σ H Q ⟨Fr, z, σa, B, sr, q⟩ => by
    unfold wpE at q
    refine ⟨Fr, z, σa, B, sr, wpEs_mono G _ _ _ _ _ (fun es B2 k2 z2 H2 zs x2 b2 r2 => ?_) (wpEs_len G _ _ _ _ q)⟩
    have r2 : Reps z2 Fr.a0 H2 es zs := r2
    refine ⟨by rw [← r2.length, k2.1, hl], Fr.a0, Fr.a1, z2, B2, permD es perm, x2.wok sr.w b2, ?_, by rw [permD_len, hpm], ?_⟩
    · rw [List.nil_append]; exact r2.perm perm
    · rw [← hΓ]
      exact G _ _ _ _ _ (fun d B3 kd z3 H3 v x3 b3 r3 => kd z3 H3 v (x2.trans x3) b3 r3) k2.2

/-! ### built-in functions -/
def CD (o : List D → (D → Prop) → Prop) : List V → Hp → VK → Prop := fun vs H Q => ∃ F z B ds K, WOk F.a0 F.a1 z B H ∧ RBs F z H ds vs ∧ o ds K ∧ PQ RF F z B H K Q
theorem jf_bi {e : Expr} {es : List Expr} {irs : List E} {b : BI} {r : List V → Hp → VK → Prop} (G : GMono Γ) (h : PE X e (tCB r (trA RBs Γ irs))) (hr : ∀ vs H Q, CD (biD b) vs H Q → r vs H Q) : JF X Γ e (.bi b irs) :=
  PE.imp h fun σ H Q ⟨F, z, σa, B, sr, q⟩ => by
    unfold wpE at q
    exact ⟨F, z, σa, B, sr, wpEs_mono G _ _ _ _ _ (fun ds B1 k z1 H1 vs x1 b1 r1 => hr _ _ _ ⟨F, z1, B1, ds, _, x1.wok sr.w b1, r1, k, fun d z' H' v kd x' b' r' =>
      kd z' H' v (x1.trans x') b' (RF.old x1.dm r')⟩) q⟩
theorem RBs.one {F : Fr0} {z : Addr → Prop} {H : Hp} {ds : List D} {vs : List V} {K : D → Prop} (r : RBs F z H ds vs) (k : one ds K) : ∃ d v, ds = [d] ∧ vs = [v] ∧ RB F H z H d v ∧ K d := by
  match ds, k with
  | [d], k =>
    obtain ⟨v, r', rfl, h, h2⟩ := r
    have e : r' = [] := h2
    subst e
    exact ⟨d, v, rfl, rfl, h, k⟩
theorem RB.seq {F : Fr0} {z : Addr → Prop} {H0 H : Hp} {d : D} {v : V} {xs : List D} {K : PySem.W.Frag} (r : RB F H0 z H d v) (e : itemsOf d = some xs) : ∃ p vs, v = .ref p ∧ (H p = some (.lst vs) ∨ H p = some (.tup vs)) ∧ Reps z F.a0 H xs vs := by
  cases d <;> simp only [itemsOf, reduceCtorEq] at e
  · injection e with e; subst e
    obtain ⟨p, vs, rfl, h, q⟩ := RB.tup r
    exact ⟨p, vs, rfl, .inr h, q⟩
  · injection e with e; subst e
    obtain ⟨p, vs, rfl, _, h, q⟩ := r
    exact ⟨p, vs, rfl, .inl h, q⟩
theorem cr_len : CallR X (.builtin "len") (CD (biD .len)) := by
  intro pins s σ H vs us Q I r ⟨F, z, B, ds, K, w, rb, k, pq⟩
  obtain ⟨d, v, e1, e2, rd, k2⟩ := rb.one k
  subst e1 e2
  clear k
  have k := k2
  clear k2
  cases d <;> try exact False.elim k
  · rename_i x
    obtain rfl := RB.str rd
    exact call_len_str pins s σ H _ us Q I r ⟨x, rfl, by rw [LIM_eq]; exact k.1, pq.int w k.2⟩
  · obtain ⟨p, ws, rfl, h, q⟩ := RB.tup rd
    exact call_len_seq pins s σ H _ us Q I r ⟨p, ws, rfl, .inr (SqT.of h), by rw [← q.length]; exact pq.int w k⟩
  · obtain ⟨p, ws, rfl, _, h, q⟩ := rd
    exact call_len_seq pins s σ H _ us Q I r ⟨p, ws, rfl, .inl (SqL.of h), by rw [← q.length]; exact pq.int w k⟩
  · obtain ⟨p, ws, rfl, _, h, q⟩ := rd
    have k : K (.int ((_ : Nat) : Int)) := k
    rcases h with ⟨kk, rfl, hl, h⟩ | ⟨kk, rfl, hl, h⟩
    · rw [List.length_map] at k
      exact call_lenD pins s σ H _ us Q I r ⟨p, _, rfl, h, by rw [List.length_zip, ← hl, Nat.min_self]; exact pq.int w k⟩
    · rw [List.length_map] at k
      exact call_len_dT pins s σ H _ us Q I r ⟨p, _, rfl, h, by rw [List.length_zip, ← hl, Nat.min_self]; exact pq.int w k⟩
theorem cr_abs : CallR X (.builtin "abs") (CD (biD .abs)) := by
  intro pins s σ H vs us Q I r ⟨F, z, B, ds, K, w, rb, k, pq⟩
  obtain ⟨d, v, e1, e2, rd, k2⟩ := rb.one k
  subst e1 e2
  clear k
  have k := k2
  clear k2
  cases d <;> try exact False.elim k
  rename_i i
  obtain rfl := RB.int rd
  exact call_abs pins s σ H _ us Q I r ⟨i, rfl, pq.int w k⟩
theorem cr_int : CallR X (.type "int") (CD (biD .int)) := by
  intro pins s σ H vs us Q I r ⟨F, z, B, ds, K, w, rb, k, pq⟩
  obtain ⟨d, v, e1, e2, rd, k2⟩ := rb.one k
  subst e1 e2
  clear k
  have k := k2
  clear k2
  cases d <;> try exact False.elim k
  · rename_i i
    obtain rfl := RB.bl rd
    exact call_int1 pins s σ H _ us Q I r (.inr ⟨i, rfl, pq.int w k⟩)
  · rename_i i
    obtain rfl := RB.int rd
    exact call_int1 pins s σ H _ us Q I r (.inl ⟨i, rfl, pq.int w k⟩)
theorem cr_tuple : CallR X (.type "tuple") (CD (biD .tuple)) := by
  intro pins s σ H vs us Q I r ⟨F, z, B, ds, K, w, rb, k, pq⟩
  obtain ⟨d, v, e1, e2, rd, k2⟩ := rb.one k
  subst e1 e2
  clear k
  have k := k2
  clear k2
  obtain ⟨xs, e, k⟩ := bnd_iff.mp k
  cases d <;> simp only [itemsOf, reduceCtorEq] at e
  · injection e with e; subst e
    obtain ⟨p, ws, rfl, h, q⟩ := RB.tup rd
    exact call_tuple_of pins s σ H _ us Q I r ⟨p, ws, rfl, .inr ⟨SqT.of h, pq.same w k rd⟩⟩
  · injection e with e; subst e
    obtain ⟨p, ws, rfl, _, h, q⟩ := rd
    exact call_tuple_of pins s σ H _ us Q I r ⟨p, ws, rfl, .inl ⟨SqL.of h, fun l nl => pq.tup w k nl q⟩⟩
theorem cr_list : CallR X (.type "list") (CD (biD .list)) := by
  intro pins s σ H vs us Q I r ⟨F, z, B, ds, K, w, rb, k, pq⟩
  obtain ⟨d, v, e1, e2, rd, k2⟩ := rb.one k
  subst e1 e2
  clear k
  have k := k2
  clear k2
  obtain ⟨xs, e, k⟩ := bnd_iff.mp k
  obtain ⟨p, ws, rfl, h, q⟩ := rd.seq (K := X.K) e
  exact call_list_of pins s σ H _ us Q I r ⟨p, ws, rfl, h.elim (fun h => .inl (SqL.of h)) (fun h => .inr (SqT.of h)), fun l nl => pq.lst w k nl q⟩
theorem cr_sumT (hc : X.calm = true) : CallR X (.builtin "sum") (fun vs H Q => ∃ (a : Addr) (ns : List Int), vs = [V.ref a] ∧ SqT X.K H a (ns.map V.int) ∧ Q (.int ns.sum) H) := by
  intro pins s σ H vs us Q I r h
  obtain ⟨a, ns, rfl, hs, q⟩ := h
  obtain ⟨its, rv, hl, _⟩ := I.tuple hs
  rw [Vals.ref1 r]
  have hi := rv.ints
  obtain ⟨xs, e⟩ := hi.allInts.items
  have hn : numsOf (intItems xs).toList = ns := by rw [← e]; exact hi.numsOf
  rw [nums_intItems] at hn
  rw [e] at hl
  refine PySem.W.ktm_sumG (I.ok.hd hc) (show s.heap.IsTuple a (intItems xs) from hl) fun h' tk t' hk => ?_
  rw [preSum_eq, List.take_of_length_le (by simp), hn]
  exact ⟨.int _, H, I.kept hk, ⟨_, rfl⟩, q⟩
theorem cr_sumD (hc : X.calm = true) : CallR X (.builtin "sum") (CD (biD .sum)) := by
  intro pins s σ H vs us Q I r ⟨F, z, B, ds, K, w, rb, k, pq⟩
  obtain ⟨d, v, e1, e2, rd, k2⟩ := rb.one k
  subst e1 e2
  clear k
  have k := k2
  clear k2
  obtain ⟨xs, e, ns, en, k⟩ := bnd_iff.mp k
  obtain ⟨p, ws, rfl, h, q⟩ := rd.seq (K := X.K) e
  subst en
  have ew := q.of_ints
  subst ew
  rcases h with h | h
  · exact cr_sum hc pins s σ H _ us Q I r ⟨p, ns, rfl, SqL.of h, pq.int w k⟩
  · exact cr_sumT hc pins s σ H _ us Q I r ⟨p, ns, rfl, SqT.of h, pq.int w k⟩
theorem foldl_pick {f : Int → Int → Int} (h : ∀ a b, f a b = a ∨ f a b = b) : ∀ (xs : List Int) (x : Int), xs.foldl f x ∈ x :: xs
  | [], x => by simp
  | y :: xs, x => by
    have q := foldl_pick h xs (f x y)
    rw [List.foldl_cons]
    rcases List.mem_cons.mp q with e | e
    · rw [e]
      rcases h x y with z | z <;> rw [z] <;> simp
    · exact List.mem_cons_of_mem _ (List.mem_cons_of_mem _ e)
theorem maxI_mem : ∀ {ns : List Int}, ns ≠ [] → maxI ns ∈ ns
  | [], h => absurd rfl h
  | x :: xs, _ => foldl_pick (fun a b => by by_cases h : b > a <;> simp [h]) xs x
theorem minI_mem : ∀ {ns : List Int}, ns ≠ [] → minI ns ∈ ns
  | [], h => absurd rfl h
  | x :: xs, _ => foldl_pick (fun a b => by by_cases h : b < a <;> simp [h]) xs x
theorem foldl_ge : ∀ (xs : List Int) (x : Int), ∀ y ∈ x :: xs, y ≤ xs.foldl (fun a b => if b > a then b else a) x
  | [], x, y, h => by simp at h; simp [h]
  | z :: xs, x, y, h => by
    rw [List.foldl_cons]
    have q := foldl_ge xs (if z > x then z else x)
    have q0 := q _ List.mem_cons_self
    rcases List.mem_cons.mp h with e | e
    · subst e
      by_cases hz : z > y
      · rw [if_pos hz] at q0 ⊢; omega
      · rw [if_neg hz] at q0 ⊢; omega
    · rcases List.mem_cons.mp e with e | e
      · subst e
        by_cases hz : y > x
        · rw [if_pos hz] at q0 ⊢; omega
        · rw [if_neg hz] at q0 ⊢; omega
      · exact q y (List.mem_cons_of_mem _ e)
theorem foldl_le : ∀ (xs : List Int) (x : Int), ∀ y ∈ x :: xs, xs.foldl (fun a b => if b < a then b else a) x ≤ y
  | [], x, y, h => by simp at h; simp [h]
  | z :: xs, x, y, h => by
    rw [List.foldl_cons]
    have q := foldl_le xs (if z < x then z else x)
    have q0 := q _ List.mem_cons_self
    rcases List.mem_cons.mp h with e | e
    · subst e
      by_cases hz : z < y
      · rw [if_pos hz] at q0 ⊢; omega
      · rw [if_neg hz] at q0 ⊢; omega
    · rcases List.mem_cons.mp e with e | e
      · subst e
        by_cases hz : y < x
        · rw [if_pos hz] at q0 ⊢; omega
        · rw [if_neg hz] at q0 ⊢; omega
      · exact q y (List.mem_cons_of_mem _ e)
theorem maxI_ge : ∀ {ns : List Int}, ∀ y ∈ ns, y ≤ maxI ns
  | x :: xs, y, h => foldl_ge xs x y h
theorem minI_le : ∀ {ns : List Int}, ∀ y ∈ ns, minI ns ≤ y
  | x :: xs, y, h => foldl_le xs x y h
theorem cr_maxD (hc : X.calm = true) : CallR X (.builtin "max") (CD (biD .max)) := by
  intro pins s σ H vs us Q I r ⟨F, z, B, ds, K, w, rb, k, pq⟩
  match ds, k with
  | [d], k =>
    obtain ⟨ns, rfl, hn, k⟩ := k
    obtain ⟨v, r', rfl, rd, e⟩ := rb
    have e : r' = [] := e
    subst e
    obtain ⟨p, ws, rfl, _, h, q⟩ := rd
    have ew := Reps.of_ints q
    subst ew
    refine cr_max hc pins s σ H _ us Q I r ⟨p, ns, rfl, SqL.of h, List.length_pos_iff.mpr hn, fun m hm hle => ?_⟩
    have em : m = maxI ns := by
      have h1 := maxI_ge m hm
      have h2 := hle _ (maxI_mem hn)
      omega
    rw [em]; exact pq.int w k
  | [d, e], k =>
    obtain ⟨v, r', rfl, rd, v2, r2, rfl, re, e0⟩ := rb
    have e0 : r2 = [] := e0
    subst e0
    cases d <;> try exact False.elim k
    cases e <;> try exact False.elim k
    obtain rfl := RB.int rd
    obtain rfl := RB.int re
    exact call_max2 hc pins s σ H _ us Q I r ⟨_, _, rfl, pq.int w k⟩
theorem cr_minD (hc : X.calm = true) : CallR X (.builtin "min") (CD (biD .min)) := by
  intro pins s σ H vs us Q I r ⟨F, z, B, ds, K, w, rb, k, pq⟩
  match ds, k with
  | [d], k =>
    obtain ⟨ns, rfl, hn, k⟩ := k
    obtain ⟨v, r', rfl, rd, e⟩ := rb
    have e : r' = [] := e
    subst e
    obtain ⟨p, ws, rfl, _, h, q⟩ := rd
    have ew := Reps.of_ints q
    subst ew
    refine cr_min hc pins s σ H _ us Q I r ⟨p, ns, rfl, SqL.of h, List.length_pos_iff.mpr hn, fun m hm hle => ?_⟩
    have em : m = minI ns := by
      have h1 := minI_le m hm
      have h2 := hle _ (minI_mem hn)
      omega
    rw [em]; exact pq.int w k
  | [d, e], k =>
    obtain ⟨v, r', rfl, rd, v2, r2, rfl, re, e0⟩ := rb
    have e0 : r2 = [] := e0
    subst e0
    cases d <;> try exact False.elim k
    cases e <;> try exact False.elim k
    obtain rfl := RB.int rd
    obtain rfl := RB.int re
    exact call_min2 hc pins s σ H _ us Q I r ⟨_, _, rfl, pq.int w k⟩
theorem cr_sortedD : CallR X (.builtin "sorted") (CD (biD .sorted)) := by
  intro pins s σ H vs us Q I r ⟨F, z, B, ds, K, w, rb, k, pq⟩
  obtain ⟨d, v, e1, e2, rd, ns, e3, k2⟩ := rb.one k
  subst e1 e2 e3
  clear k
  have k := k2
  clear k2
  obtain ⟨p, ws, rfl, _, h, q⟩ := rd
  have ew := Reps.of_ints q
  subst ew
  exact cr_sortedI pins s σ H _ us Q I r ⟨p, ns, rfl, SqL.of h, fun ms a h1 h2 na => pq.lst w (k ms h1 h2) na (Reps.ints ms)⟩
theorem cr_allD (hc : X.calm = true) : CallR X (.builtin "all") (CD (biD .all)) := by
  intro pins s σ H vs us Q I r ⟨F, z, B, ds, K, w, rb, k, pq⟩
  obtain ⟨d, v, e1, e2, rd, ns, e3, k2⟩ := rb.one k
  subst e1 e2 e3
  clear k
  have k := k2
  clear k2
  obtain ⟨p, ws, rfl, _, h, q⟩ := rd
  have ew := Reps.of_bls q
  subst ew
  exact cr_all hc pins s σ H _ us Q I r ⟨p, ns, rfl, SqL.of h, pq.bl w k⟩
theorem cr_anyD (hc : X.calm = true) : CallR X (.builtin "any") (CD (biD .any)) := by
  intro pins s σ H vs us Q I r ⟨F, z, B, ds, K, w, rb, k, pq⟩
  obtain ⟨d, v, e1, e2, rd, ns, e3, k2⟩ := rb.one k
  subst e1 e2 e3
  clear k
  have k := k2
  clear k2
  obtain ⟨p, ws, rfl, _, h, q⟩ := rd
  have ew := Reps.of_bls q
  subst ew
  exact cr_any hc pins s σ H _ us Q I r ⟨p, ns, rfl, SqL.of h, pq.bl w k⟩

/-! ### isinstance -/
def tyS : Ty → String
  | .int => "int" | .bool => "bool" | .str => "str" | .tuple => "tuple" | .list => "list"
def tyN : Ty → Str
  | .int => "int" | .bool => "bool" | .str => "str" | .tuple => "tuple" | .list => "list"
/-- the type of a tree -/
def tyOf : D → String
  | .non => "NoneType" | .bl _ => "bool" | .int _ => "int" | .str _ => "str" | .tup _ => "tuple" | .lst _ => "list" | .dic _ _ => "dict" | .bag => "list"
theorem RB.ty {F : Fr0} {z : Addr → Prop} {H0 H : Hp} {d : D} {v : V} {B : Bag} {K : PySem.W.Frag} (w : WOk F.a0 F.a1 z B H) (r : RB F H0 z H d v) : TyX K H v (.type (tyOf d)) := by
  cases d with
  | non => rw [RB.non r]; exact .base .non
  | bl b => rw [RB.bl r]; exact .base (.bl b)
  | int b => rw [RB.int r]; exact .base (.int b)
  | str b => rw [RB.str r]; exact .base (.str b)
  | tup xs => obtain ⟨p, vs, rfl, h, _⟩ := RB.tup r; exact .base (.tup h)
  | lst xs => obtain ⟨p, vs, rfl, _, h, _⟩ := r; exact .base (.lst h)
  | dic ks vs =>
    obtain ⟨p, vs, rfl, _, h, _⟩ := r
    rcases h with ⟨kk, _, _, h⟩ | ⟨kk, _, _, h⟩
    · exact .base (.dK h)
    · exact .base (.dT h)
  | bag => rw [RB.bag r]; exact .base (.lst w.b0)
theorem kit_tab (t : Ty) : kitB "NoneType" (tyS t) = some false ∧ kitB "bool" (tyS t) = some (t == .int || t == .bool) ∧ kitB "int" (tyS t) = some (t == .int) ∧ kitB "str" (tyS t) = some (t == .str) ∧
    kitB "tuple" (tyS t) = some (t == .tuple) ∧ kitB "list" (tyS t) = some (t == .list) ∧ kitB "dict" (tyS t) = some false := by
  cases t <;> decide +kernel
theorem kit_D {K : PySem.W.Frag} (d : D) (t : Ty) : PySem.W.kitOne K (.type (tyOf d)) (.type (tyS t)) = some (isTy t d) := by
  obtain ⟨h0, h1, h2, h3, h4, h5, h6⟩ := kit_tab t
  cases d with
  | non => exact kit_ty h0
  | bl b => exact kit_ty h1
  | int b => exact kit_ty h2
  | str b => exact kit_ty h3
  | tup b => exact kit_ty h4
  | lst b => exact kit_ty h5
  | dic a b => exact kit_ty h6
  | bag => exact kit_ty h5
theorem jf_isi {a : Expr} {ia : E} {t : Ty} {p p2 pos : Pos} (G : GMono Γ) (ha : JB X Γ a ia) (hg : Gl X "isinstance") (hm : X.mg "isinstance" = none) (hg2 : Gl X (tyN t)) (hm2 : X.mg (tyN t) = none)
    (h1 : starEach [a, .Name (tyN t) p2] X.env = (false, eval a X.env) :: starEach [.Name (tyN t) p2] X.env) : JF X Γ (.Call (.Name "isinstance" p) [a, .Name (tyN t) p2] [] pos) (.isi t ia) := by
  have hty : PE X (.Name (tyN t) p2) (tC (.ty (tyS t))) := by
    cases t <;> exact pe_bltn (v := .ty _) hg2 hm2 (by decide +kernel) rfl (by decide +kernel) (by decide +kernel)
  refine PE.imp (pe_callB call_isi hg hm (by decide +kernel) (pa_cons ha (pa_cons hty pa_nil) h1) (by decide +kernel) (by decide +kernel) h1 rfl) fun σ H Q ⟨F, z, σa, B, sr, q⟩ => ?_
  unfold wpE at q
  refine ⟨F, z, σa, B, sr, wpE_mono G _ _ _ _ _ (fun d B1 k z1 H1 v x1 b1 r1 => ?_) q⟩
  exact ⟨v, .ty (tyS t), .type (tyOf d), .type (tyS t), isTy t d, rfl, .ty _, RB.ty (x1.wok sr.w b1) r1, kit_D d t, k z1 H1 _ x1 b1 (show Rep z1 F.a0 H1 (.bl _) _ from rep_bl)⟩
end
end TL


set_option autoImplicit false
/-! The tree layer, part 8: what loops walk; comprehensions. -/
namespace TL
open PySem PySem.Spec PyProof.Rows L2
/-- lengths of what is tracked -/
def HLen (H : Hp) : Prop := ∀ a vs, (H a = some (.lst vs) ∨ H a = some (.tup vs)) → vs.length ≤ LIM
theorem HLen.of {X : Cx} {pins : List (Addr × Obj)} {σ : L2.St} {H : Hp} {s : Shared} (I : Inv X pins σ H s) : HLen H := fun a vs h => by
  rcases h with h | h
  · obtain ⟨z, _⟩ := I.hok a _ h
    rw [← LIM_eq]; exact z
  · obtain ⟨z, _⟩ := I.hok a _ h
    rw [← LIM_eq]; exact z
theorem PI.len {X : Cx} {tg it : Expr} {t : TI} (h : PI X tg it t) : PI X tg it fun σ H R => t σ H fun J H1 => HLen H1 → R J H1 :=
  ⟨fun pins s σ H R I q => thn (h.run pins s σ H _ I q) fun v s1 h1 => thn h1 fun itv s2 ⟨it, fp, tn, J, H', e, I', T, h0, hf, r⟩ => ⟨it, fp, tn, J, H', e, I', T, h0, hf, r (HLen.of I')⟩⟩
/-- the iterator J yields the trees xs, as long as L holds of what is frozen and of the heap -/
def ItR (L : (Addr → Prop) → Hp → Prop) (F : Fr0) (J : It) (xs : List D) : Prop :=
  ∀ (z' : Addr → Prop) (H' : Hp) (B' : Bag), WOk F.a0 F.a1 z' B' H' → L z' H' → ∀ i : Nat,
    (∀ d, xs[i]? = some d → J.go i H' ∧ ∀ x H'', J.yld i H' x H'' → ∃ z'', XE F.a0 F.a1 z' H' z'' H'' ∧ BagAt F.a0 F.a1 B' H'' ∧ Rep z'' F.a0 H'' d x) ∧ (i = xs.length → J.stop i H')
/-- where the operands need to stand: all that is tracked but the bag; what is frozen -/
def LE (F : Fr0) (z : Addr → Prop) (H : Hp) : (Addr → Prop) → Hp → Prop := fun z' H' => XE F.a0 F.a1 z H z' H'
def LS (z : Addr → Prop) (H : Hp) : (Addr → Prop) → Hp → Prop := fun z' H' => XS z H z' H'
def trI (b : Bool) (Γ : Gm) (k : IK) (es : List E) : TI := fun σ H R => ∃ F z σa B, SR F z σa B σ H ∧
  wpEs Γ es σa B fun ds B' => iterD k ds fun xs => ∀ z' H' J, XE F.a0 F.a1 z H z' H' → BagAt F.a0 F.a1 B' H' → (match b with | true => ItR (LE F z' H') F J xs | false => ItR (LS z' H') F J xs) → xs.length ≤ LIM → R J H'
abbrev JI (X : Cx) (b : Bool) (Γ : Gm) (tg it : Expr) (k : IK) (es : List E) : Prop := PI X tg it (trI b Γ k es)
section
variable {F : Fr0} {z : Addr → Prop} {H : Hp} {B : Bag} {K : PySem.W.Frag}
/-- a list or tuple that stays, read through -/
theorem get_of {L : (Addr → Prop) → Hp → Prop} {xs : List D} {vs : List V} (hr : ∀ z' H' B', WOk F.a0 F.a1 z' B' H' → L z' H' → Reps z' F.a0 H' xs vs) {z' : Addr → Prop} {H' : Hp} {B' : Bag} (w : WOk F.a0 F.a1 z' B' H') (l : L z' H') {i : Nat} {d : D} (e : xs[i]? = some d) :
    ∃ v, vs[i]? = some v ∧ Rep z' F.a0 H' d v := (hr z' H' B' w l).get e
theorem itr_list {L : (Addr → Prop) → Hp → Prop} {a : Addr} {xs : List D} {vs : List V} (ha : ∀ z' H' B', WOk F.a0 F.a1 z' B' H' → L z' H' → H' a = some (.lst vs) ∧ Reps z' F.a0 H' xs vs) : ItR L F (Itl K a) xs := fun z' H' B' w l i => by
  obtain ⟨e, r⟩ := ha z' H' B' w l
  refine ⟨fun d hd => ?_, fun hi => ⟨vs, SqL.of e, by rw [← r.length, hi]; exact Nat.le_refl _⟩⟩
  obtain ⟨v, hv, rv⟩ := r.get hd
  refine ⟨⟨vs, v, SqL.of e, hv⟩, fun x H'' hy => ?_⟩
  obtain ⟨rfl, hy⟩ := hy
  have e2 := hy vs (SqL.of e)
  rw [hv] at e2
  injection e2 with e2
  subst e2
  exact ⟨z', XE.refl, w.bag, rv⟩
theorem itr_tup {L : (Addr → Prop) → Hp → Prop} {a : Addr} {xs : List D} {vs : List V} (ha : ∀ z' H' B', WOk F.a0 F.a1 z' B' H' → L z' H' → H' a = some (.tup vs) ∧ Reps z' F.a0 H' xs vs) : ItR L F (Itt K a) xs := fun z' H' B' w l i => by
  obtain ⟨e, r⟩ := ha z' H' B' w l
  refine ⟨fun d hd => ?_, fun hi => ⟨vs, SqT.of e, by rw [← r.length, hi]; exact Nat.le_refl _⟩⟩
  obtain ⟨v, hv, rv⟩ := r.get hd
  refine ⟨⟨vs, v, SqT.of e, hv⟩, fun x H'' hy => ?_⟩
  obtain ⟨rfl, hy⟩ := hy
  have e2 := hy vs (SqT.of e)
  rw [hv] at e2
  injection e2 with e2
  subst e2
  exact ⟨z', XE.refl, w.bag, rv⟩
theorem rngD_get {lo hi : Int} {i : Nat} : (rngD lo hi)[i]? = if i < (hi - lo).toNat then some (.int (lo + (i : Int))) else none := by
  unfold rngD
  rw [List.getElem?_map]
  by_cases h : i < (hi - lo).toNat
  · rw [if_pos h, List.getElem?_range h]; rfl
  · rw [if_neg h, List.getElem?_eq_none (by simpa using h)]; rfl
theorem rngD_len {lo hi : Int} : (rngD lo hi).length = (hi - lo).toNat := by unfold rngD; rw [List.length_map, List.length_range]
theorem enumD_get : ∀ {xs : List D} {n i : Nat}, (enumD n xs)[i]? = xs[i]?.map fun x => .tup [.int ((n + i : Nat) : Int), x]
  | [], n, i => by simp [enumD]
  | x :: xs, n, 0 => by simp [enumD]
  | x :: xs, n, i + 1 => by
    rw [enumD, List.getElem?_cons_succ, List.getElem?_cons_succ, enumD_get]
    have e : n + 1 + i = n + (i + 1) := by omega
    rw [e]
theorem enumD_len : ∀ {xs : List D} {n : Nat}, (enumD n xs).length = xs.length
  | [], n => rfl
  | x :: xs, n => by rw [enumD, List.length_cons, List.length_cons, enumD_len]
theorem zipD_get : ∀ {xs ys : List D} {i : Nat} {d : D}, (zipD xs ys)[i]? = some d → ∃ x y, xs[i]? = some x ∧ ys[i]? = some y ∧ d = .tup [x, y]
  | [], ys, i, d, h => by simp [zipD] at h
  | x :: xs, [], i, d, h => by simp [zipD] at h
  | x :: xs, y :: ys, 0, d, h => by
    simp [zipD] at h
    exact ⟨x, y, rfl, rfl, h.symm⟩
  | x :: xs, y :: ys, i + 1, d, h => by
    rw [zipD, List.getElem?_cons_succ] at h
    obtain ⟨a, b, h1, h2, h3⟩ := zipD_get h
    exact ⟨a, b, by simpa using h1, by simpa using h2, h3⟩
theorem zipD_len : ∀ {xs ys : List D}, (zipD xs ys).length = min xs.length ys.length
  | [], ys => by simp [zipD]
  | x :: xs, [] => by simp [zipD]
  | x :: xs, y :: ys => by rw [zipD, List.length_cons, List.length_cons, List.length_cons, zipD_len]; omega
theorem itr_rng {L : (Addr → Prop) → Hp → Prop} (lo hi : Int) : ItR L F (Itr lo (hi - lo).toNat) (rngD lo hi) := fun z' H' B' w l i => by
  refine ⟨fun d hd => ?_, fun e => ?_⟩
  · rw [rngD_get] at hd
    by_cases h : i < (hi - lo).toNat
    · rw [if_pos h] at hd
      injection hd with hd
      refine ⟨h, fun x H'' hy => ?_⟩
      obtain ⟨rfl, rfl⟩ := hy
      subst hd
      exact ⟨z', XE.refl, w.bag, rep_int⟩
    · rw [if_neg h] at hd; cases hd
  · rw [rngD_len] at e
    exact Nat.le_of_eq e.symm
theorem itr_rngDn {L : (Addr → Prop) → Hp → Prop} (a b : Int) : ItR L F (Itc a (-1) (a - b).toNat) (rngD (b + 1) (a + 1)).reverse := fun z' H' B' w l i => by
  have hn : (a + 1 - (b + 1)).toNat = (a - b).toNat := by
    have : a + 1 - (b + 1) = a - b := by omega
    rw [this]
  refine ⟨fun d hd => ?_, fun e => ?_⟩
  · by_cases h : i < (a - b).toNat
    · rw [List.getElem?_reverse (by rw [rngD_len, hn]; exact h), rngD_len, hn, rngD_get, hn, if_pos (by omega)] at hd
      injection hd with hd
      refine ⟨h, fun x H'' hy => ?_⟩
      obtain ⟨rfl, rfl⟩ := hy
      subst hd
      have e : b + 1 + (((a - b).toNat - 1 - i : Nat) : Int) = a + (i : Int) * (-1) := by omega
      rw [e]
      exact ⟨z', XE.refl, w.bag, rep_int⟩
    · rw [List.getElem?_eq_none (by rw [List.length_reverse, rngD_len, hn]; omega)] at hd; cases hd
  · rw [List.length_reverse, rngD_len, hn] at e
    exact Nat.le_of_eq e.symm
theorem itr_enum {L : (Addr → Prop) → Hp → Prop} {a : Addr} {xs : List D} {vs : List V} (ha : ∀ z' H' B', WOk F.a0 F.a1 z' B' H' → L z' H' → H' a = some (.lst vs) ∧ Reps z' F.a0 H' xs vs) : ItR L F (Ite K a) (enumD 0 xs) := fun z' H' B' w l i => by
  obtain ⟨e, r⟩ := ha z' H' B' w l
  refine ⟨fun d hd => ?_, fun hi => ⟨vs, SqL.of e, by rw [← r.length, hi, enumD_len]; exact Nat.le_refl _⟩⟩
  rw [enumD_get] at hd
  cases hx : xs[i]? with
  | none => rw [hx] at hd; cases hd
  | some x0 =>
    rw [hx] at hd
    injection hd with hd
    subst hd
    obtain ⟨v, hv, rv⟩ := r.get hx
    refine ⟨⟨vs, v, SqL.of e, hv⟩, fun x H'' hy => ?_⟩
    obtain ⟨T, y, rfl, nT, rfl, hy⟩ := hy
    have e2 := hy vs (SqL.of e)
    rw [hv] at e2
    injection e2 with e2
    subst e2
    refine ⟨z', XE.new nT, w.bag.new nT, rep_tup upd_same (Reps.cons ?_ (Reps.cons (rv.stay ((XE.new (a0 := F.a0) (a1 := F.a1) nT).xs w)) Reps.nil))⟩
    have e3 : ((0 + i : Nat) : Int) = (i : Int) := by omega
    rw [e3]
    exact rep_int
theorem itr_rev {L : (Addr → Prop) → Hp → Prop} {a : Addr} {xs : List D} {vs : List V} (ha : ∀ z' H' B', WOk F.a0 F.a1 z' B' H' → L z' H' → H' a = some (.lst vs) ∧ Reps z' F.a0 H' xs vs) (hl : xs.length = vs.length) : ItR L F (Itv K a vs.length) xs.reverse := fun z' H' B' w l i => by
  obtain ⟨e, r⟩ := ha z' H' B' w l
  refine ⟨fun d hd => ?_, fun hi => by rw [List.length_reverse] at hi; exact Nat.le_of_eq (hl.symm.trans hi.symm)⟩
  by_cases hi : i < xs.length
  · rw [List.getElem?_reverse hi] at hd
    obtain ⟨v, hv, rv⟩ := r.get hd
    have hv' : vs[vs.length - 1 - i]? = some v := by rw [← hl]; exact hv
    refine ⟨⟨by omega, vs, v, SqL.of e, hv'⟩, fun x H'' hy => ?_⟩
    obtain ⟨rfl, hy⟩ := hy
    have e2 := hy vs (SqL.of e)
    rw [hv'] at e2
    injection e2 with e2
    subst e2
    exact ⟨z', XE.refl, w.bag, rv⟩
  · rw [List.getElem?_eq_none (by rw [List.length_reverse]; omega)] at hd; cases hd
theorem itr_revT {L : (Addr → Prop) → Hp → Prop} {a : Addr} {xs : List D} {vs : List V} (ha : ∀ z' H' B', WOk F.a0 F.a1 z' B' H' → L z' H' → H' a = some (.tup vs) ∧ Reps z' F.a0 H' xs vs) (hl : xs.length = vs.length) : ItR L F (RT.ItvT K a vs.length) xs.reverse := fun z' H' B' w l i => by
  obtain ⟨e, r⟩ := ha z' H' B' w l
  refine ⟨fun d hd => ?_, fun hi => by rw [List.length_reverse] at hi; exact Nat.le_of_eq (hl.symm.trans hi.symm)⟩
  by_cases hi : i < xs.length
  · rw [List.getElem?_reverse hi] at hd
    obtain ⟨v, hv, rv⟩ := r.get hd
    have hv' : vs[vs.length - 1 - i]? = some v := by rw [← hl]; exact hv
    refine ⟨⟨by omega, vs, v, SqT.of e, hv'⟩, fun x H'' hy => ?_⟩
    obtain ⟨rfl, hy⟩ := hy
    have e2 := hy vs (SqT.of e)
    rw [hv'] at e2
    injection e2 with e2
    subst e2
    exact ⟨z', XE.refl, w.bag, rv⟩
  · rw [List.getElem?_eq_none (by rw [List.length_reverse]; omega)] at hd; cases hd
theorem itr_zip {L : (Addr → Prop) → Hp → Prop} {a b : Addr} {xs ys : List D} {vs ws : List V} (ha : ∀ z' H' B', WOk F.a0 F.a1 z' B' H' → L z' H' → H' a = some (.lst vs) ∧ Reps z' F.a0 H' xs vs)
    (hb : ∀ z' H' B', WOk F.a0 F.a1 z' B' H' → L z' H' → H' b = some (.lst ws) ∧ Reps z' F.a0 H' ys ws) : ItR L F (Itz K a b) (zipD xs ys) := fun z' H' B' w l i => by
  obtain ⟨e1, r1⟩ := ha z' H' B' w l
  obtain ⟨e2, r2⟩ := hb z' H' B' w l
  refine ⟨fun d hd => ?_, fun hi => ⟨vs, ws, SqL.of e1, SqL.of e2, by rw [zipD_len, r1.length, r2.length] at hi; omega⟩⟩
  obtain ⟨x, y, hx, hy, rfl⟩ := zipD_get hd
  obtain ⟨v, hv, rv⟩ := r1.get hx
  obtain ⟨u, hu, ru⟩ := r2.get hy
  refine ⟨⟨vs, ws, v, u, SqL.of e1, SqL.of e2, hv, hu⟩, fun x' H'' hyl => ?_⟩
  obtain ⟨T, p, q, rfl, nT, rfl, k1, k2⟩ := hyl
  have f1 := k1 vs (SqL.of e1)
  rw [hv] at f1
  injection f1 with f1
  subst f1
  have f2 := k2 ws (SqL.of e2)
  rw [hu] at f2
  injection f2 with f2
  subst f2
  have x := (XE.new (a0 := F.a0) (a1 := F.a1) (z := z') (o := .tup [v, u]) nT).xs w
  exact ⟨z', XE.new nT, w.bag.new nT, rep_tup upd_same (Reps.cons (rv.stay x) (Reps.cons (ru.stay x) Reps.nil))⟩
theorem itr_zipT {L : (Addr → Prop) → Hp → Prop} {a b : Addr} {xs ys : List D} {vs ws : List V} (ha : ∀ z' H' B', WOk F.a0 F.a1 z' B' H' → L z' H' → H' a = some (.tup vs) ∧ Reps z' F.a0 H' xs vs)
    (hb : ∀ z' H' B', WOk F.a0 F.a1 z' B' H' → L z' H' → H' b = some (.tup ws) ∧ Reps z' F.a0 H' ys ws) : ItR L F (RZ.ItzT K a b) (zipD xs ys) := fun z' H' B' w l i => by
  obtain ⟨e1, r1⟩ := ha z' H' B' w l
  obtain ⟨e2, r2⟩ := hb z' H' B' w l
  refine ⟨fun d hd => ?_, fun hi => ⟨vs, ws, SqT.of e1, SqT.of e2, by rw [zipD_len, r1.length, r2.length] at hi; omega⟩⟩
  obtain ⟨x, y, hx, hy, rfl⟩ := zipD_get hd
  obtain ⟨v, hv, rv⟩ := r1.get hx
  obtain ⟨u, hu, ru⟩ := r2.get hy
  refine ⟨⟨vs, ws, v, u, SqT.of e1, SqT.of e2, hv, hu⟩, fun x' H'' hyl => ?_⟩
  obtain ⟨T, p, q, rfl, nT, rfl, k1, k2⟩ := hyl
  have f1 := k1 vs (SqT.of e1)
  rw [hv] at f1
  injection f1 with f1
  subst f1
  have f2 := k2 ws (SqT.of e2)
  rw [hu] at f2
  injection f2 with f2
  subst f2
  have x := (XE.new (a0 := F.a0) (a1 := F.a1) (z := z') (o := .tup [v, u]) nT).xs w
  exact ⟨z', XE.new nT, w.bag.new nT, rep_tup upd_same (Reps.cons (rv.stay x) (Reps.cons (ru.stay x) Reps.nil))⟩
end

/-- how an operand of a walk stands: read now (true), frozen (false) -/
def RK (b : Bool) : RR := match b with
  | true => RB
  | false => RV
def LK (b : Bool) (F : Fr0) (z : Addr → Prop) (H : Hp) : (Addr → Prop) → Hp → Prop := match b with
  | true => LE F z H
  | false => LS z H
theorem RK.tup {b : Bool} {F : Fr0} {z : Addr → Prop} {H0 H : Hp} {ds : List D} {v : V} {B : Bag} (w : WOk F.a0 F.a1 z B H) (r : RK b F H0 z H (.tup ds) v) : ∃ a vs, v = .ref a ∧ H a = some (.tup vs) ∧ Reps z F.a0 H ds vs ∧
    ∀ z' H' B', WOk F.a0 F.a1 z' B' H' → LK b F z H z' H' → H' a = some (.tup vs) ∧ Reps z' F.a0 H' ds vs := by
  cases b with
  | true =>
    obtain ⟨a, vs, rfl, e, q⟩ := RB.tup (show RB F H0 z H (.tup ds) v from r)
    exact ⟨a, vs, rfl, e, q, fun z' H' B' w' l => ⟨(XE.xs l w).tp _ _ e, q.stay (XE.xs l w)⟩⟩
  | false =>
    obtain ⟨a, vs, rfl, e, q⟩ := Rep.tup (show Rep z F.a0 H (.tup ds) v from r)
    exact ⟨a, vs, rfl, e, q, fun z' H' B' w' l => ⟨XS.tp l _ _ e, q.stay l⟩⟩
theorem RK.lst {b : Bool} {F : Fr0} {z : Addr → Prop} {H0 H : Hp} {ds : List D} {v : V} {B : Bag} (w : WOk F.a0 F.a1 z B H) (r : RK b F H0 z H (.lst ds) v) : ∃ a vs, v = .ref a ∧ H a = some (.lst vs) ∧ Reps z F.a0 H ds vs ∧
    ∀ z' H' B', WOk F.a0 F.a1 z' B' H' → LK b F z H z' H' → H' a = some (.lst vs) ∧ Reps z' F.a0 H' ds vs := by
  cases b with
  | true =>
    obtain ⟨a, vs, rfl, n, e, q⟩ := r
    exact ⟨a, vs, rfl, e, q, fun z' H' B' w' l => ⟨XE.ex l _ _ e n.1 n.2, q.stay (XE.xs l w)⟩⟩
  | false =>
    obtain ⟨a, vs, rfl, n, e, q⟩ := Rep.lst (show Rep z F.a0 H (.lst ds) v from r)
    exact ⟨a, vs, rfl, e, q, fun z' H' B' w' l => ⟨XS.ex l _ _ n e, q.stay l⟩⟩
theorem RK.int {b : Bool} {F : Fr0} {z : Addr → Prop} {H0 H : Hp} {i : Int} {v : V} (r : RK b F H0 z H (.int i) v) : v = .int i := by
  cases b with
  | true => exact RB.int (show RB F H0 z H (.int i) v from r)
  | false => exact Rep.int (show Rep z F.a0 H (.int i) v from r)
theorem RK.str {b : Bool} {F : Fr0} {z : Addr → Prop} {H0 H : Hp} {i : Str} {v : V} (r : RK b F H0 z H (.str i) v) : v = .str i := by
  cases b with
  | true => exact RB.str (show RB F H0 z H (.str i) v from r)
  | false => exact Rep.str (show Rep z F.a0 H (.str i) v from r)
section
variable {X : Cx} {Γ : Gm} {b : Bool}
/-- a walk's end: J, given for the trees xs -/
theorem ji_fin {F : Fr0} {z z' : Addr → Prop} {H H' : Hp} {B' : Bag} {xs : List D} {J : It} {R : It → Hp → Prop}
    (k : ∀ z' H' J, XE F.a0 F.a1 z H z' H' → BagAt F.a0 F.a1 B' H' → (match b with | true => ItR (LE F z' H') F J xs | false => ItR (LS z' H') F J xs) → xs.length ≤ LIM → R J H')
    (x : XE F.a0 F.a1 z H z' H') (bg : BagAt F.a0 F.a1 B' H') (hJ : ItR (LK b F z' H') F J xs) (hl : xs.length ≤ LIM) : R J H' :=
  k z' H' J x bg (by cases b <;> exact hJ) hl
abbrev JRK (X : Cx) (b : Bool) (Γ : Gm) (e : Expr) (ir : E) : Prop := PE X e (tr (RK b) Γ ir)
theorem pi_seq {tg l : Expr} {tl : TE} (hl : PE X l tl) : PI X tg l fun σ H R => tl σ H fun x H1 =>
    (∃ a, x = .ref a ∧ (∃ xs, SqL X.K H1 a xs) ∧ R (Itl X.K a) H1) ∨ (∃ a, x = .ref a ∧ (∃ xs, SqT X.K H1 a xs) ∧ R (Itt X.K a) H1) ∨ (∃ s, x = .str s ∧ R (Its s) H1) := by
  refine ⟨fun pins s σ H R I h => ?_⟩
  refine thn (hl.run pins s σ H _ I h) fun v s1 ⟨x, H1, I1, r1, q1⟩ => ?_
  rcases q1 with ⟨a, e, ⟨xs, hq⟩, q⟩ | ⟨a, e, ⟨xs, hq⟩, q⟩ | ⟨st, e, q⟩
  · subst e
    cases r1
    obtain ⟨its, rv, p, hz⟩ := I1.list hq
    refine wpAny_pyIter_list p.isList ?_
    refine ⟨s1.heap.objs.size, [s1.heap.objs.size], _, _, H1, rfl, I1.kept (t' := s1.toks) fun b o e => Heap.get?_push_of_some _ e, turn_list a _, ⟨_, Heap.get?_push_size _ rfl, rfl, rfl⟩, fun b hb => ?_, q⟩
    have e : b = s1.heap.objs.size := by simpa using hb
    subst e
    exact I1.fpOk (Nat.le_refl _) (I1.hok.fresh (Nat.le_refl _))
  · subst e
    cases r1
    obtain ⟨its, rv, p, hz⟩ := I1.tuple hq
    refine wpAny_pyIter_tuple (show s1.heap.IsTuple a its.toArray from p) ?_
    refine ⟨s1.heap.objs.size, [s1.heap.objs.size], _, _, H1, rfl, I1.kept (t' := s1.toks) fun b o e => Heap.get?_push_of_some _ e, turn_tuple a _, ⟨_, Heap.get?_push_size _ rfl, rfl, rfl⟩, fun b hb => ?_, q⟩
    have e : b = s1.heap.objs.size := by simpa using hb
    subst e
    exact I1.fpOk (Nat.le_refl _) (I1.hok.fresh (Nat.le_refl _))
  · subst e
    obtain ⟨t, rfl⟩ := r1
    cases ha : st.cps.all (· < 128)
    · exact wpAny_pyIter_wide ha (pi_one (tk := s1.toks) I1 _ (turn_str _ st t "str_iterator" (.inr rfl)) ⟨_, Heap.get?_push_size _ rfl, rfl, rfl⟩ q)
    · exact wpAny_pyIter_ascii ha (pi_one (tk := s1.toks) I1 _ (turn_str _ st t "str_ascii_iterator" (.inl rfl)) ⟨_, Heap.get?_push_size _ rfl, rfl, rfl⟩ q)
theorem itr_str {L : (Addr → Prop) → Hp → Prop} {F : Fr0} (x : Str) : ItR L F (Its x) (x.cps.toList.map fun c => D.str ⟨#[c]⟩) := fun z' H' B' w l i => by
  refine ⟨fun d hd => ?_, fun e => ?_⟩
  · rw [List.getElem?_map, Array.getElem?_toList] at hd
    cases hx : x.cps[i]? with
    | none => rw [hx] at hd; cases hd
    | some c =>
      rw [hx] at hd
      injection hd with hd
      subst hd
      obtain ⟨hi, _⟩ := Array.getElem?_eq_some_iff.mp hx
      refine ⟨hi, fun y H'' hy => ?_⟩
      obtain ⟨rfl, c', hc, rfl⟩ := hy
      rw [hx] at hc
      injection hc with hc
      subst hc
      exact ⟨z', XE.refl, w.bag, rep_str⟩
  · rw [List.length_map, Array.length_toList] at e
    exact Nat.le_of_eq e.symm
theorem wpEs_one {e : E} {σ : List Sl} {B : Bag} {Q : List D → Bag → Prop} (h : wpEs Γ [e] σ B Q) : wpE Γ e σ B fun d B' => Q [d] B' := by
  unfold wpEs at h
  unfold wpEs at h
  exact h
theorem ji_seq {tg l : Expr} {ir : E} (G : GMono Γ) (h : JRK X b Γ l ir) : JI X b Γ tg l .seq [ir] :=
  PI.imp (PI.len (pi_seq h)) fun σ H R ⟨F, z, σa, B, sr, q⟩ => by
    refine ⟨F, z, σa, B, sr, wpE_mono G _ _ _ _ _ (fun d B' k z1 H1 v x1 b1 r1 => ?_) (wpEs_one q)⟩
    have w1 := x1.wok sr.w b1
    cases d <;> try exact False.elim k
    · rename_i st
      have e := RK.str r1
      subst e
      exact .inr (.inr ⟨st, rfl, fun hl => ji_fin k.2 x1 b1 (itr_str st) (by rw [List.length_map, Array.length_toList]; exact k.1)⟩)
    · rename_i xs
      obtain ⟨a, vs, rfl, e, q, hs⟩ := RK.tup w1 r1
      exact .inr (.inl ⟨a, rfl, ⟨vs, SqT.of e⟩, fun hl => ji_fin k x1 b1 (itr_tup hs) (by rw [q.length]; exact hl a vs (.inr e))⟩)
    · rename_i xs
      obtain ⟨a, vs, rfl, e, q, hs⟩ := RK.lst w1 r1
      exact .inl ⟨a, rfl, ⟨vs, SqL.of e⟩, fun hl => ji_fin k x1 b1 (itr_list hs) (by rw [q.length]; exact hl a vs (.inl e))⟩
/-- arguments of a walk -/
def RKs (b : Bool) : RRs := fun F z H ds vs => match b with
  | true => RBs F z H ds vs
  | false => Reps z F.a0 H ds vs
abbrev JRKs (X : Cx) (b : Bool) (Γ : Gm) (es : List Expr) (irs : List E) : Prop := PA X es (trA (RKs b) Γ irs)
theorem RKs.cons {F : Fr0} {z : Addr → Prop} {H : Hp} {d : D} {ds : List D} {vs : List V} (r : RKs b F z H (d :: ds) vs) : ∃ v ws, vs = v :: ws ∧ RK b F H z H d v ∧ RKs b F z H ds ws := by
  cases b with
  | true => exact r
  | false => exact Reps.uncons r
theorem RKs.nil {F : Fr0} {z : Addr → Prop} {H : Hp} {vs : List V} (r : RKs b F z H [] vs) : vs = [] := by
  cases b with
  | true => exact r
  | false => exact Reps.of_nil (show Reps z F.a0 H [] vs from r)
theorem rng_le {n : Int} (h : rngOk n) : -(2 ^ 62) ≤ n ∧ n < 2 ^ 62 := ⟨by have := h.1; omega, by have := h.2; omega⟩
theorem ji_rng1 {tg a : Expr} {ia : E} {p pos : Pos} (G : GMono Γ) (h : JRKs X b Γ [a] [ia]) (hg : Gl X "range") (hm : X.mg "range" = none) (hs : starEach [a] X.env = [(false, eval a X.env)]) : JI X b Γ tg (.Call (.Name "range" p) [a] [] pos) .rng [ia] :=
  PI.imp (pi_range1 hg hm h hs) fun σ H R ⟨F, z, σa, B, sr, q⟩ => by
    refine ⟨F, z, σa, B, sr, wpEs_mono G _ _ _ _ _ (fun ds B' k z1 H1 vs x1 b1 r1 => ?_) (wpEs_len G _ _ _ _ q)⟩
    obtain ⟨kl, k⟩ := k
    match ds, kl with
    | [d], _ =>
      obtain ⟨v, ws, rfl, rv, rw'⟩ := RKs.cons r1
      rw [RKs.nil rw']
      cases d <;> try exact False.elim k
      rename_i n _
      have e := RK.int rv
      subst e
      refine ⟨n, rfl, (rng_le k.1).1, (rng_le k.1).2, ji_fin k.2 x1 b1 ?_ ?_⟩
      · have := itr_rng (F := F) (L := LK b F z1 H1) 0 n
        rw [Int.sub_zero] at this
        exact this
      · rw [rngD_len]
        have := k.1.2
        show (n - 0).toNat ≤ 16777216
        omega
theorem ji_rng2 {tg a c : Expr} {ia ic : E} {p pos : Pos} (G : GMono Γ) (h : JRKs X b Γ [a, c] [ia, ic]) (hg : Gl X "range") (hm : X.mg "range" = none) (hs : starEach [a, c] X.env = [(false, eval a X.env), (false, eval c X.env)])
    (hs2 : starEach [c] X.env = [(false, eval c X.env)]) : JI X b Γ tg (.Call (.Name "range" p) [a, c] [] pos) .rng [ia, ic] :=
  PI.imp (pi_range2 hg hm h hs hs2) fun σ H R ⟨F, z, σa, B, sr, q⟩ => by
    refine ⟨F, z, σa, B, sr, wpEs_mono G _ _ _ _ _ (fun ds B' k z1 H1 vs x1 b1 r1 => ?_) (wpEs_len G _ _ _ _ q)⟩
    obtain ⟨kl, k⟩ := k
    match ds, kl with
    | [d, e], _ =>
      obtain ⟨v, ws, rfl, rv, rw'⟩ := RKs.cons r1
      obtain ⟨v2, ws2, rfl, rv2, rw2⟩ := RKs.cons rw'
      rw [RKs.nil rw2]
      cases d <;> try exact False.elim k
      cases e <;> try exact False.elim k
      rename_i n m _
      have e := RK.int rv
      subst e
      have e := RK.int rv2
      subst e
      refine ⟨n, m, rfl, ⟨(rng_le k.1.1).1, (rng_le k.1.1).2, (rng_le k.1.2).1, (rng_le k.1.2).2⟩, ji_fin k.2 x1 b1 (itr_rng n m) ?_⟩
      rw [rngD_len]
      have h1 := k.1.1.1
      have h2 := k.1.2.2
      show (m - n).toNat ≤ 16777216
      omega
theorem ji_rng3 {tg a c e : Expr} {ia ic ie : E} {p pos : Pos} (G : GMono Γ) (h : JRKs X b Γ [a, c, e] [ia, ic, ie]) (hg : Gl X "range") (hm : X.mg "range" = none) (hs : starEach [a, c, e] X.env = (false, eval a X.env) :: starEach [c, e] X.env)
    (hs2 : (backTo pos (starEach [c, e] X.env)).any (·.1) = false) : JI X b Γ tg (.Call (.Name "range" p) [a, c, e] [] pos) .rng [ia, ic, ie] :=
  PI.imp (pi_range3 hg hm h hs hs2) fun σ H R ⟨F, z, σa, B, sr, q⟩ => by
    refine ⟨F, z, σa, B, sr, wpEs_mono G _ _ _ _ _ (fun ds B' k z1 H1 vs x1 b1 r1 => ?_) (wpEs_len G _ _ _ _ q)⟩
    obtain ⟨kl, k⟩ := k
    match ds, kl with
    | [d, e, f], _ =>
      obtain ⟨v, ws, rfl, rv, rw'⟩ := RKs.cons r1
      obtain ⟨v2, ws2, rfl, rv2, rw2⟩ := RKs.cons rw'
      obtain ⟨v3, ws3, rfl, rv3, rw3⟩ := RKs.cons rw2
      rw [RKs.nil rw3]
      cases d <;> try exact False.elim k
      cases e <;> try exact False.elim k
      cases f <;> try exact False.elim k
      rename_i n m l _
      have e := RK.int rv
      subst e
      have e := RK.int rv2
      subst e
      have e := RK.int rv3
      subst e
      obtain ⟨⟨k1, k2, k3⟩, k⟩ := k
      subst k3
      refine ⟨n, m, -1, (n - m).toNat, rfl, RgC.neg (rng_le k1).1 (rng_le k1).2 (rng_le k2).1 (rng_le k2).2, ji_fin k x1 b1 (itr_rngDn n m) ?_⟩
      rw [List.length_reverse, rngD_len]
      have h1 := k1.2
      have h2 := k2.1
      show (n + 1 - (m + 1)).toNat ≤ 16777216
      omega
theorem ji_zip {a c : Expr} {ia ic : E} {p pos tpos : Pos} {elts : List Expr} {kk : Nat} (G : GMono Γ) (h : JRKs X b Γ [a, c] [ia, ic]) (hg : Gl X "zip") (hm : X.mg "zip" = none) (hs : starEach [a, c] X.env = (false, eval a X.env) :: starEach [c] X.env)
    (hpl : (backTo pos (starEach [c] X.env)).any (·.1) = false) : JI X b Γ (.Tuple elts kk tpos) (.Call (.Name "zip" p) [a, c] [] pos) .zip [ia, ic] :=
  PI.imp (PI.len (RZ.pi_zipA hg hm h hs hpl)) fun σ H R ⟨F, z, σa, B, sr, q⟩ => by
    refine ⟨F, z, σa, B, sr, wpEs_mono G _ _ _ _ _ (fun ds B' k z1 H1 vs x1 b1 r1 => ?_) (wpEs_len G _ _ _ _ q)⟩
    obtain ⟨kl, k⟩ := k
    have w1 := x1.wok sr.w b1
    match ds, kl with
    | [d, e], _ =>
      obtain ⟨v, ws, rfl, rv, rw'⟩ := RKs.cons r1
      obtain ⟨v2, ws2, rfl, rv2, rw2⟩ := RKs.cons rw'
      rw [RKs.nil rw2]
      cases d <;> try exact False.elim k
      · cases e <;> try exact False.elim k
        obtain ⟨a1, vs1, rfl, e1, q1, hs1⟩ := RK.tup w1 rv
        obtain ⟨a2, vs2, rfl, e2, q2, hs2⟩ := RK.tup w1 rv2
        refine ⟨a1, a2, vs1, vs2, rfl, .inr ⟨SqT.of e1, SqT.of e2, fun hl => ji_fin k x1 b1 (itr_zipT hs1 hs2) ?_⟩⟩
        rw [zipD_len, q1.length]
        exact Nat.le_trans (Nat.min_le_left _ _) (hl a1 vs1 (.inr e1))
      · cases e <;> try exact False.elim k
        obtain ⟨a1, vs1, rfl, e1, q1, hs1⟩ := RK.lst w1 rv
        obtain ⟨a2, vs2, rfl, e2, q2, hs2⟩ := RK.lst w1 rv2
        refine ⟨a1, a2, vs1, vs2, rfl, .inl ⟨SqL.of e1, SqL.of e2, fun hl => ji_fin k x1 b1 (itr_zip hs1 hs2) ?_⟩⟩
        rw [zipD_len, q1.length]
        exact Nat.le_trans (Nat.min_le_left _ _) (hl a1 vs1 (.inl e1))
theorem ji_rev {tg a : Expr} {ia : E} {p pos : Pos} (G : GMono Γ) (h : JRK X b Γ a ia) (hg : Gl X "reversed") (hm : X.mg "reversed" = none) (hs : starEach [a] X.env = (false, eval a X.env) :: starEach [] X.env) : JI X b Γ tg (.Call (.Name "reversed" p) [a] [] pos) .rev [ia] :=
  PI.imp (PI.len (RT.pi_revA hg hm h hs)) fun σ H R ⟨F, z, σa, B, sr, q⟩ => by
    refine ⟨F, z, σa, B, sr, wpE_mono G _ _ _ _ _ (fun d B' k z1 H1 v x1 b1 r1 => ?_) (wpEs_one q)⟩
    have w1 := x1.wok sr.w b1
    obtain ⟨xs, e, k⟩ := bnd_iff.mp (show bnd (itemsOf d) _ from k)
    cases d <;> simp only [itemsOf, reduceCtorEq] at e
    · injection e with e; subst e
      obtain ⟨a1, vs1, rfl, e1, q1, hs1⟩ := RK.tup w1 r1
      exact ⟨a1, vs1, rfl, .inr ⟨SqT.of e1, fun hl => ji_fin k x1 b1 (itr_revT hs1 q1.length) (by rw [List.length_reverse, q1.length]; exact hl a1 vs1 (.inr e1))⟩⟩
    · injection e with e; subst e
      obtain ⟨a1, vs1, rfl, e1, q1, hs1⟩ := RK.lst w1 r1
      exact ⟨a1, vs1, rfl, .inl ⟨SqL.of e1, fun hl => ji_fin k x1 b1 (itr_rev hs1 q1.length) (by rw [List.length_reverse, q1.length]; exact hl a1 vs1 (.inl e1))⟩⟩
end
end TL


set_option autoImplicit false
/-! The tree layer, part 9: targets, comprehensions. -/
namespace TL
open PySem PySem.Spec PyProof.Rows L2
mutual
def tgVars : Tg → List Nat
  | .nm i => [i]
  | .tp ts => tgVarss ts
def tgVarss : List Tg → List Nat
  | [] => []
  | t :: ts => tgVars t ++ tgVarss ts
end
/-- alike but for the slots in vs -/
def Alike (vs : List Nat) (σ σ' : L2.St) : Prop := σ'.length = σ.length ∧ ∀ i, i ∉ vs → σ'[i]? = σ[i]?
theorem Alike.refl {vs : List Nat} {σ : L2.St} : Alike vs σ σ := ⟨rfl, fun _ _ => rfl⟩
theorem Alike.trans {vs ws : List Nat} {σ σ1 σ2 : L2.St} (a : Alike vs σ σ1) (b : Alike ws σ1 σ2) : Alike (vs ++ ws) σ σ2 :=
  ⟨b.1.trans a.1, fun i h => (b.2 i fun q => h (List.mem_append_right _ q)).trans (a.2 i fun q => h (List.mem_append_left _ q))⟩
def trG (t : Tg) : TG := fun v σ H Q => ∃ F z σa B d, SR F z σa B σ H ∧ Rep z F.a0 H d v ∧ bnd (bindT t d σa) fun σa' => ∀ σ', SR F z σa' B σ' H → Alike (tgVars t) σ σ' → Q σ' H
def trGs (ts : List Tg) : TGs := fun vs σ H Q => ∃ F z σa B ds, SR F z σa B σ H ∧ Reps z F.a0 H ds vs ∧ bnd (bindTs ts ds σa) fun σa' => ∀ σ', SR F z σa' B σ' H → Alike (tgVarss ts) σ σ' → Q σ' H
abbrev JG (X : Cx) (tg : Expr) (t : Tg) : Prop := PG X tg (trG t)
abbrev JGs (X : Cx) (tgs : List Expr) (ts : List Tg) : Prop := PGs X tgs (trGs ts)
theorem PGs.imp {X : Cx} {tg : List Expr} {t t' : TGs} (h : PGs X tg t) (i : ∀ v σ H Q, t' v σ H Q → t v σ H Q) : PGs X tg t' := ⟨fun pins s σ H v u Q I r q => h.run pins s σ H v u Q I r (i _ _ _ _ q)⟩
theorem PG.or {X : Cx} {tg : Expr} {t t' : TG} (h : PG X tg t) (h' : PG X tg t') : PG X tg fun v σ H Q => t v σ H Q ∨ t' v σ H Q := ⟨fun pins s σ H v u Q I r q => q.elim (h.run pins s σ H v u Q I r) (h'.run pins s σ H v u Q I r)⟩
theorem bindTs_none {t : Tg} {ts : List Tg} {d : D} {ds : List D} {σ : List Sl} (h : bindT t d σ = none) : bindTs (t :: ts) (d :: ds) σ = none := by simp [bindTs, h]
theorem bindTs_some {t : Tg} {ts : List Tg} {d : D} {ds : List D} {σ σ1 : List Sl} (h : bindT t d σ = some σ1) : bindTs (t :: ts) (d :: ds) σ = bindTs ts ds σ1 := by simp [bindTs, h]
section
variable {X : Cx}
theorem jg_nm {N : List Str} {sc : Scope} {x : Str} {i : Nat} {pos : Pos} (M : Nm X N sc) (hi : N[i]? = some x) (hx : Loc sc x) (hf : X.fn x = true ∨ sc.names.lookup x = some .local) : JG X (.Name x pos) (.nm i) :=
  PG.imp (pg_name (i := i) (by rw [M.eN]; exact M.nd) (by rw [M.eN]; exact hi) (by rw [M.eS]; exact hx) (by rw [M.eS]; exact hf)) fun v σ H Q ⟨F, z, σa, B, d, sr, r, q⟩ =>
    q _ (sr.setV r) ⟨List.length_set, fun j hj => by
      have hj : j ∉ [i] := by unfold tgVars at hj; exact hj
      rw [List.getElem?_set_ne fun e => hj (by rw [e]; exact List.mem_singleton.mpr rfl)]⟩
theorem jgs_nil : JGs X [] [] :=
  PGs.imp pgs_nil fun vs σ H Q ⟨F, z, σa, B, ds, sr, r, q⟩ => by
    cases ds with
    | nil => exact ⟨r.of_nil, q σ sr Alike.refl⟩
    | cons d ds => exact False.elim q
theorem jgs_cons {e : Expr} {es : List Expr} {t : Tg} {ts : List Tg} (h1 : JG X e t) (h2 : JGs X es ts) (hs : (assignEach (e :: es) X.env).map (·.2) = assign e X.env :: (assignEach es X.env).map (·.2)) : JGs X (e :: es) (t :: ts) :=
  PGs.imp (pgs_cons h1 h2 hs) fun vs σ H Q ⟨F, z, σa, B, ds, sr, r, q⟩ => by
    cases ds with
    | nil => exact False.elim q
    | cons d ds =>
      obtain ⟨v, ws, rfl, r1, r2⟩ := r.uncons
      refine ⟨v, ws, rfl, F, z, σa, B, d, sr, r1, ?_⟩
      cases e : bindT t d σa with
      | none => rw [bindTs_none e] at q; exact False.elim q
      | some σa1 =>
        rw [bindTs_some e] at q
        exact fun σ1 sr1 al1 => ⟨F, z, σa1, B, ds, sr1, r2, bnd_mono (fun σa2 k σ2 sr2 al2 => k σ2 sr2 (by
          unfold tgVarss
          exact al1.trans al2)) q⟩
theorem jg_tp {es : List Expr} {k : Nat} {pos : Pos} {ts : List Tg} (hc : X.calm = true) (h : JGs X es ts) (hn : (assignEach es X.env).length = ts.length) (hst : (assignEach es X.env).findIdx? (·.1) = none) : JG X (.Tuple es k pos) (.tp ts) :=
  PG.imp (PG.or (pg_tup hc h hn hst) (pg_unl hc h hn hst)) fun v σ H Q ⟨F, z, σa, B, d, sr, r, q⟩ => by
    unfold bindT at q
    have len : ∀ {ts : List Tg} {ds : List D} {σa : List Sl} {K : List Sl → Prop}, bnd (bindTs ts ds σa) K → ds.length = ts.length := by
      intro ts
      induction ts with
      | nil => intro ds σa K h; cases ds with
        | nil => rfl
        | cons a b => exact False.elim h
      | cons t ts ih => intro ds σa K h; cases ds with
        | nil => exact False.elim h
        | cons a b =>
          cases e : bindT t a σa with
          | none => rw [bindTs_none e] at h; exact False.elim h
          | some s => rw [bindTs_some e] at h; rw [List.length_cons, List.length_cons, ih h]
    cases d <;> try exact False.elim q
    · rename_i ds
      obtain ⟨a, vs, rfl, e, r2⟩ := r.tup
      exact .inl ⟨a, vs, rfl, SqT.of e, by rw [← r2.length]; exact len q, F, z, σa, B, ds, sr, r2, bnd_mono (fun σa2 k σ2 sr2 al2 => k σ2 sr2 (by unfold tgVars; exact al2)) q⟩
    · rename_i ds
      obtain ⟨a, vs, rfl, _, e, r2⟩ := r.lst
      exact .inr ⟨a, vs, rfl, SqL.of e, by rw [← r2.length]; exact len q, F, z, σa, B, ds, sr, r2, bnd_mono (fun σa2 k σ2 sr2 al2 => k σ2 sr2 (by unfold tgVars; exact al2)) q⟩
end

/-! ### comprehensions -/
theorem wipe_get {σ : L2.St} {i : Nat} : ∀ {vs : List Nat}, (wipe σ vs)[i]? = if i ∈ vs ∧ i < σ.length then some none else σ[i]?
  | [] => by simp [wipe]
  | v :: vs => by
    unfold wipe
    by_cases h : v = i
    · subst h
      by_cases hl : v < σ.length
      · rw [List.getElem?_set_self (by rw [wipe_length]; exact hl), if_pos ⟨List.mem_cons_self, hl⟩]
      · rw [List.getElem?_eq_none (by rw [List.length_set, wipe_length]; omega), if_neg (fun q => hl q.2), List.getElem?_eq_none (by omega)]
    · rw [List.getElem?_set_ne h, wipe_get]
      by_cases h2 : i ∈ vs ∧ i < σ.length
      · rw [if_pos h2, if_pos ⟨List.mem_cons_of_mem _ h2.1, h2.2⟩]
      · rw [if_neg h2, if_neg fun q => h2 ⟨(List.mem_cons.mp q.1).resolve_left (fun e => h e.symm), q.2⟩]
theorem wipe_alike {vs own : List Nat} {σ σ' : L2.St} (h : Alike vs (wipe σ own) σ') (hs : ∀ i ∈ vs, i ∈ own) : wipe σ' own = wipe σ own := by
  apply List.ext_getElem?
  intro i
  have hl : σ'.length = σ.length := h.1.trans (wipe_length _ _)
  rw [wipe_get, wipe_get, hl]
  by_cases hi : i ∈ own ∧ i < σ.length
  · rw [if_pos hi, if_pos hi]
  · rw [if_neg hi, if_neg hi]
    by_cases hv : i ∈ vs
    · have : ¬ i < σ.length := fun q => hi ⟨hs i hv, q⟩
      rw [List.getElem?_eq_none (by omega), List.getElem?_eq_none (by omega)]
    · rw [h.2 i hv, wipe_get, if_neg hi]
section
variable {X : Cx} {Γ : Gm}
theorem lcL_cons {f : D → Bag → (List D → Bag → Prop) → Prop} {x : D} {xs : List D} {B : Bag} {Q : List D → Bag → Prop} : lcL f (x :: xs) B Q = f x B fun a B1 => lcL f xs B1 fun r B2 => Q (a ++ r) B2 := rfl
theorem lc_tr {k : IK} {es : List E} {tg : Tg} {own : List Nat} {c el : E} (G : GMono Γ) (hown : ∀ i ∈ tgVars tg, i ∈ own) {σ : L2.St} {H : Hp} {Q : VK} (h : tr RF Γ (.lc k es tg own c el) σ H Q) :
    tLc (trI true Γ k es) (trG tg) (trT Γ c) (tr RV Γ el) own σ H Q := by
  obtain ⟨F, z, σa, B, sr, q⟩ := h
  unfold wpE at q
  refine ⟨F, z, σa, B, sr, wpEs_mono G _ _ _ _ _ (fun ds B1 k1 => iterD_mono (fun xs k2 z1 H1 J x1 b1 hJ hl dd nD => ?_) k1) q⟩
  have hJ : ItR (LE F z1 H1) F J xs := hJ
  have w1 := x1.wok sr.w b1
  have n0 : dd ≠ F.a0 := fun e => by rw [e, w1.b0] at nD; cases nD
  have n1 : dd ≠ F.a1 := fun e => by rw [e, w1.b1] at nD; cases nD
  -- a turn's meaning
  obtain ⟨f, hf⟩ : ∃ f, (fun (x : D) (B : Bag) (K : List D → Bag → Prop) => bnd (bindT tg x (wipeS σa own)) fun σ' => wpE Γ c σ' B fun t B2 => tst t fun t =>
    if t = true then wpE Γ el σ' B2 fun d B3 => K [d] B3 else K [] B2) = f := ⟨_, rfl⟩
  have k2 : lcL f xs B1 fun r B2 => ∀ z' H' v, XE F.a0 F.a1 z H z' H' → BagAt F.a0 F.a1 B2 H' → RF F H z' H' (.lst r) v → Q v H' := by rw [← hf]; exact k2
  refine ⟨fun i m H' => m = xs.length - i ∧ i ≤ xs.length ∧ ∃ z' B' acc vacc, XE F.a0 F.a1 z1 H1 z' H' ∧ BagAt F.a0 F.a1 B' H' ∧ H' dd = some (.lst vacc) ∧ Reps z' F.a0 H' acc vacc ∧ ¬ z' dd ∧ acc.length ≤ i ∧
    lcL f (xs.drop i) B' fun r B2 => ∀ z' H' v, XE F.a0 F.a1 z H z' H' → BagAt F.a0 F.a1 B2 H' → RF F H z' H' (.lst (acc ++ r)) v → Q v H',
    ⟨xs.length, by simp, Nat.zero_le _, z1, B1, [], [], XE.new nD, b1.new nD, upd_same, Reps.nil, w1.fresh nD, Nat.le_refl _, by simpa using k2⟩, ?_⟩
  rintro i m H' ⟨rfl, hi, z', B', acc, vacc, x', b', eD, rD, nzD, la, kk⟩
  have xz := x1.trans x'
  have w' := x'.wok w1 b'
  have sr' := sr.step xz b'
  by_cases hlt : i < xs.length
  · have hx : xs[i]? = some xs[i] := List.getElem?_eq_getElem hlt
    obtain ⟨go, yl⟩ := (hJ z' H' B' w' x' i).1 _ hx
    refine .inr ⟨go, fun H'' => ∃ m', m' < xs.length - i ∧ _, fun H'' h => h, fun x H2 hy => ?_⟩
    obtain ⟨z2, x2, b2, rx⟩ := yl x H2 hy
    have w2 := x2.wok w' b2
    have sr2 := (sr'.step x2 b2).wipe own
    rw [List.drop_eq_getElem_cons hlt, lcL_cons] at kk
    rw [← hf] at kk
    refine ⟨F, z2, _, B', _, sr2, rx, bnd_mono (fun σa3 k3 σ3 sr3 al => ?_) kk⟩
    refine ⟨wipe_alike al hown, F, z2, σa3, B', sr3, wpE_mono G _ _ _ _ _ (fun t B3 k4 => tst_mono (fun t k5 z4 H4 x4 b4 => ?_) k4) k3⟩
    have x24 := x2.trans x4
    cases t with
    | false =>
      have x14 := x'.trans x24
      have e4 : H4 dd = some (.lst vacc) := x24.ex _ _ eD n0 n1
      refine ⟨xs.length - (i + 1), by omega, rfl, hlt, z4, B3, acc, vacc, x14, b4, e4, rD.stay (x24.xs w'), fun hz => ?_, by omega, ?_⟩
      · rcases x24.zn dd hz with q | ⟨q, _⟩
        · exact nzD q
        · rw [eD] at q; cases q
      · rw [hf] at k5
        exact lcL_mono (fun x B K K' hk u => by
          rw [← hf] at u ⊢
          exact bnd_mono (fun _ v => wpE_mono G _ _ _ _ _ (fun _ _ w => tst_mono (fun t y => by
            cases t with
            | true => exact wpE_mono G _ _ _ _ _ (fun _ _ z => hk _ _ z) y
            | false => exact hk _ _ y) w) v) u) _ _ _ _ (fun r B2 u => by simpa using u) k5
    | true =>
      refine ⟨F, z4, σa3, B3, sr3.step x4 b4, wpE_mono G _ _ _ _ _ (fun d B5 k6 z5 H5 v x5 b5 r5 => ?_) k5⟩
      have x25 := x24.trans x5
      have x15 := x'.trans x25
      have e5 : H5 dd = some (.lst vacc) := x25.ex _ _ eD n0 n1
      have w5 := x25.wok w' b5
      have nz5 : ¬ z5 dd := fun hz => by
        rcases x25.zn dd hz with q | ⟨q, _⟩
        · exact nzD q
        · rw [eD] at q; cases q
      refine ⟨vacc, e5, ?_, ?_⟩
      · rw [← rD.length, LIM_eq]
        omega
      · -- the list has one more
        have xs5 : XS z5 H5 z5 (upd H5 dd (.lst (vacc ++ [v]))) := ⟨fun _ h => h, fun a o hz h => by rw [upd_ne (fun (e : a = dd) => nz5 (e ▸ hz))]; exact h, fun a ts h => by
          rw [upd_ne fun e => by
            rw [e, e5] at h
            cases h]
          exact h⟩
        have x6 : XE F.a0 F.a1 z1 H1 z5 (upd H5 dd (.lst (vacc ++ [v]))) := ⟨x15.zz, fun a hz => by
          rcases x15.zn a hz with q | ⟨q, o, e⟩
          · exact .inl q
          · refine .inr ⟨q, ?_⟩
            by_cases ha : a = dd
            · rw [ha]; exact ⟨_, upd_same⟩
            · rw [upd_ne ha]; exact ⟨o, e⟩, fun a o h h0 h1 => by
          rw [upd_ne (ne_of_none h nD)]
          exact x15.ex a o h h0 h1, fun a h => by
          by_cases ha : a = dd
          · rw [ha]; exact nD
          · rw [upd_ne ha] at h; exact x15.dm a h⟩
        have b6 : BagAt F.a0 F.a1 B5 (upd H5 dd (.lst (vacc ++ [v]))) := ⟨by rw [upd_ne (Ne.symm n0)]; exact b5.1, by rw [upd_ne (Ne.symm n1)]; exact b5.2⟩
        refine ⟨xs.length - (i + 1), by omega, rfl, hlt, z5, B5, acc ++ [d], vacc ++ [v], x6, b6, upd_same, ((rD.stay (x25.xs w')).append (Reps.cons r5 Reps.nil)).stay xs5, nz5, by rw [List.length_append]; simp; omega, ?_⟩
        rw [hf] at k6
        exact lcL_mono (fun x B K K' hk u => by
          rw [← hf] at u ⊢
          exact bnd_mono (fun _ v => wpE_mono G _ _ _ _ _ (fun _ _ w => tst_mono (fun t y => by
            cases t with
            | true => exact wpE_mono G _ _ _ _ _ (fun _ _ z => hk _ _ z) y
            | false => exact hk _ _ y) w) v) u) _ _ _ _ (fun r B2 u => by simpa using u) k6
  · have e : i = xs.length := by omega
    subst e
    refine .inl ⟨(hJ z' H' B' w' x' _).2 rfl, ?_⟩
    rw [List.drop_length] at kk
    have kk := kk z' H' (.ref dd) xz b'
    rw [List.append_nil] at kk
    exact kk ⟨dd, vacc, rfl, x1.dm dd nD, nzD, eD, rD⟩
end
end TL


set_option autoImplicit false
/-! The tree layer, part 10: statements. -/
namespace TL
open PySem PySem.Spec PyProof.Rows L2
/-- the ends, by trees -/
def toP (F : Fr0) (z : Addr → Prop) (H : Hp) (D : Ends) : Pst where
  nx := fun σa B => ∀ z' σ H', XS z H z' H' → SR F z' σa B σ H' → D.nx σ H'
  rt := fun d B => ∀ z' σa σ H' v, XS z H z' H' → SR F z' σa B σ H' → Rep z' F.a0 H' d v → D.rt v H'
  bk := fun σa B => ∀ z' σ H', XS z H z' H' → SR F z' σa B σ H' → D.bk σ H'
  ct := fun σa B => ∀ z' σ H', XS z H z' H' → SR F z' σa B σ H' → D.ct σ H'
def trS (Γ : Gm) (s : S) : TS := fun D σ H => ∃ F z σa B, SR F z σa B σ H ∧ wpS Γ s (toP F z H D) σa B
def trSs (Γ : Gm) (ss : List S) : TS := fun D σ H => ∃ F z σa B, SR F z σa B σ H ∧ wpSs Γ ss (toP F z H D) σa B
abbrev JS (X : Cx) (Γ : Gm) (st : Stmt) (s : S) : Prop := PS X st (trS Γ s)
abbrev JSs (X : Cx) (Γ : Gm) (st : List Stmt) (ss : List S) : Prop := PSs X st (trSs Γ ss)
theorem toP_le {F : Fr0} {z z' : Addr → Prop} {H H' : Hp} {D : Ends} (x : XS z H z' H') : Pst.Le (toP F z H D) (toP F z' H' D) :=
  ⟨fun _ _ k z2 σ H2 y r => k z2 σ H2 (x.trans y) r, fun _ _ k z2 σa σ H2 v y r q => k z2 σa σ H2 v (x.trans y) r q, fun _ _ k z2 σ H2 y r => k z2 σ H2 (x.trans y) r, fun _ _ k z2 σ H2 y r => k z2 σ H2 (x.trans y) r⟩
section
variable {X : Cx} {Γ : Gm}
theorem jss_nil : JSs X Γ [] [] := PSs.imp pss_nil fun D σ H ⟨F, z, σa, B, sr, q⟩ => by
  unfold wpSs at q
  exact q z σ H XS.refl sr
theorem jss_cons {st : Stmt} {rest : List Stmt} {s : S} {ss : List S} (G : GMono Γ) (h1 : JS X Γ st s) (h2 : JSs X Γ rest ss) : JSs X Γ (st :: rest) (s :: ss) :=
  PSs.imp (pss_cons h1 h2) fun D σ H ⟨F, z, σa, B, sr, q⟩ => by
    unfold wpSs at q
    exact ⟨F, z, σa, B, sr, wpS_mono G s ⟨wpSs Γ ss (toP F z H D), (toP F z H D).rt, (toP F z H D).bk, (toP F z H D).ct⟩ _ _ _ ⟨fun σa' B' k z' σ' H' x r => ⟨F, z', σa', B', r, wpSs_mono G ss _ _ _ _ (toP_le x) k⟩, fun _ _ k => k, fun _ _ k => k, fun _ _ k => k⟩ q⟩
theorem jss_frz {st : List Stmt} {ss : List S} {is : List Nat} (G : GMono Γ) (h : JSs X Γ st ss) : JSs X Γ st (.frz is :: ss) :=
  PSs.imp h fun D σ H ⟨F, z, σa, B, sr, q⟩ => by
    unfold wpSs at q
    unfold wpS at q
    obtain ⟨z', x, sr'⟩ := sr.frz is
    exact ⟨F, z', _, B, sr', wpSs_mono G ss _ _ _ _ (toP_le x) q⟩
/-- code that is never reached -/
theorem jss_nvr {st : List Stmt} {ss : List S} : JSs X Γ st (.nvr :: ss) := PSs.imp pss_never fun D σ H ⟨F, z, σa, B, sr, q⟩ => by
  unfold wpSs at q
  unfold wpS at q
  exact q
theorem js_nvr {st : Stmt} : JS X Γ st .nvr := PS.imp ps_never fun D σ H ⟨F, z, σa, B, sr, q⟩ => by
  unfold wpS at q
  exact q
theorem js_pas {pos : Pos} : JS X Γ (.Pass pos) .pas := PS.imp ps_pass fun D σ H ⟨F, z, σa, B, sr, q⟩ => by
  unfold wpS at q
  exact q z σ H XS.refl sr
theorem js_doc {x : Str} {j : Nat} {pos p : Pos} : JS X Γ (.Expr (.Constant (.str x) j pos) p) .pas := PS.imp ps_doc fun D σ H ⟨F, z, σa, B, sr, q⟩ => by
  unfold wpS at q
  exact q z σ H XS.refl sr
theorem js_brk {pos : Pos} : JS X Γ (.Break pos) .brk := PS.imp ps_break fun D σ H ⟨F, z, σa, B, sr, q⟩ => by
  unfold wpS at q
  exact q z σ H XS.refl sr
theorem js_cnt {pos : Pos} : JS X Γ (.Continue pos) .cnt := PS.imp ps_continue fun D σ H ⟨F, z, σa, B, sr, q⟩ => by
  unfold wpS at q
  exact q z σ H XS.refl sr
theorem js_retN {pos : Pos} : JS X Γ (.Return none pos) .retN := PS.imp ps_retN fun D σ H ⟨F, z, σa, B, sr, q⟩ => by
  unfold wpS at q
  exact q z σa σ H _ XS.refl sr rep_non
theorem js_ret {e : Expr} {ir : E} {pos : Pos} (G : GMono Γ) (h : JE X Γ e ir) : JS X Γ (.Return (some e) pos) (.ret ir) := PS.imp (ps_ret h) fun D σ H ⟨F, z, σa, B, sr, q⟩ => by
  unfold wpS at q
  exact ⟨F, z, σa, B, sr, wpE_mono G _ _ _ _ _ (fun d B' k z' H' v x b r => k z' σa σ H' v (x.xs sr.w) (sr.step x b) r) q⟩
theorem js_ex {e : Expr} {ir : E} {pos : Pos} (G : GMono Γ) (h : JE X Γ e ir) (hs : swapsWith e none pos.line X.env = pure false) : JS X Γ (.Expr e pos) (.ex ir) := PS.imp (ps_expr h hs) fun D σ H ⟨F, z, σa, B, sr, q⟩ => by
  unfold wpS at q
  exact ⟨F, z, σa, B, sr, wpE_mono G _ _ _ _ _ (fun d B' k z' H' v x b r => k z' σ H' (x.xs sr.w) (sr.step x b)) q⟩
theorem js_ite {c : Expr} {ic : E} {a b : List Stmt} {sa sb : List S} {pos : Pos} (G : GMono Γ) (hc : JT X Γ c ic) (ha : JSs X Γ a sa) (hb : JSs X Γ b sb) : JS X Γ (.If c a b pos) (.ite ic sa sb) :=
  PS.imp (ps_if hc ha hb) fun D σ H ⟨F, z, σa, B, sr, q⟩ => by
    unfold wpS at q
    refine ⟨F, z, σa, B, sr, wpE_mono G _ _ _ _ _ (fun d B' k => tst_mono (fun t k z' H' x b => ?_) k) q⟩
    cases t with
    | true => exact ⟨F, z', σa, B', sr.step x b, wpSs_mono G _ _ _ _ _ (toP_le (x.xs sr.w)) k⟩
    | false => exact ⟨F, z', σa, B', sr.step x b, wpSs_mono G _ _ _ _ _ (toP_le (x.xs sr.w)) k⟩

/-! ### assignments -/
theorem asg_trE {i : Nat} {ir : E} {D : Ends} {σ : L2.St} {H : Hp} (G : GMono Γ) (h : trS Γ (.asg i ir) D σ H) : tr RV Γ ir σ H fun x H1 => D.nx (σ.set i (some x)) H1 := by
  obtain ⟨F, z, σa, B, sr, q⟩ := h
  unfold wpS at q
  exact ⟨F, z, σa, B, sr, wpE_mono G _ _ _ _ _ (fun d B' k z' H' v x b r => k z' _ H' (x.xs sr.w) ((sr.step x b).setV r)) q⟩
theorem asg_trF {i : Nat} {ir : E} {D : Ends} {σ : L2.St} {H : Hp} (G : GMono Γ) (h : trS Γ (.asg i ir) D σ H) : tr RF Γ ir σ H fun x H1 => D.nx (σ.set i (some x)) H1 := by
  obtain ⟨F, z, σa, B, sr, q⟩ := h
  unfold wpS at q
  exact ⟨F, z, σa, B, sr, wpE_mono G _ _ _ _ _ (fun d B' k z' H' v x b r => by
    obtain ⟨z2, x2, r2⟩ := RF.freeze x r
    exact k z2 _ H' (x2.xs sr.w) ((sr.step x2 b).setV r2)) q⟩
/-- what is new is no name's own yet -/
theorem RF.own {F : Fr0} {z z' : Addr → Prop} {σa : List Sl} {B : Bag} {σ : L2.St} {H H' : Hp} {d : D} {v : V} {s : Sl} (sr : SR F z σa B σ H) (r : RF F H z' H' d v) (e : ownS d = some s) :
    SlOk F z' H' s (some (some v)) ∧ isOwn s = true ∧ ∃ p, v = .ref p ∧ H p = none := by
  cases d <;> try (simp [ownS] at e; done)
  · simp [ownS] at e
    subst e
    obtain ⟨p, vs, rfl, n, nz, eh, rs⟩ := r
    exact ⟨⟨p, vs, rfl, ⟨nz, fun q => by (rw [q, sr.w.b0] at n; cases n), fun q => by (rw [q, sr.w.b1] at n; cases n), sr.dm p n⟩, eh, rs⟩, rfl, p, rfl, n⟩
  · simp [ownS] at e
    subst e
    obtain ⟨p, vs, rfl, n, nz, eh, rs⟩ := r
    exact ⟨⟨p, vs, rfl, ⟨nz, fun q => by (rw [q, sr.w.b0] at n; cases n), fun q => by (rw [q, sr.w.b1] at n; cases n), sr.dm p n⟩, eh, rs⟩, rfl, p, rfl, n⟩
theorem asgO_trF {i : Nat} {ir : E} {D : Ends} {σ : L2.St} {H : Hp} (G : GMono Γ) (h : trS Γ (.asgO i ir) D σ H) : tr RF Γ ir σ H fun x H1 => D.nx (σ.set i (some x)) H1 := by
  obtain ⟨F, z, σa, B, sr, q⟩ := h
  unfold wpS at q
  refine ⟨F, z, σa, B, sr, wpE_mono G _ _ _ _ _ (fun d B' k z' H' v x b r => ?_) q⟩
  obtain ⟨s, es, k⟩ := bnd_iff.mp k
  obtain ⟨ok, io, p, rfl, n⟩ := r.own sr es
  refine k z' _ H' (x.xs sr.w) ((sr.step x b).setS ok fun _ j t p' e1 e2 o2 e3 => ?_)
  cases e1
  obtain ⟨q', e4, _, u, e5⟩ := (sr.sl j t e2).own o2
  rw [e3] at e4
  cases e4
  rw [n] at e5; cases e5
theorem js_asg {N : List Str} {sc : Scope} {x : Str} {e : Expr} {i : Nat} {ir : E} {pos p : Pos} (G : GMono Γ) (M : Nm X N sc) (hi : N[i]? = some x) (hx : Loc sc x) (hf : X.fn x = true ∨ sc.names.lookup x = some .local) (he : JE X Γ e ir)
    (hs : swapsWith e (some (.Name x p)) pos.line X.env = pure false) : JS X Γ (.Assign [.Name x p] e pos) (.asg i ir) :=
  PS.imp (ps_set (i := i) (by rw [M.eN]; exact M.nd) (by rw [M.eN]; exact hi) (by rw [M.eS]; exact hx) he hs (by rw [M.eS]; exact hf)) fun D σ H h => asg_trE G h
theorem js_asgO {N : List Str} {sc : Scope} {x : Str} {e : Expr} {i : Nat} {ir : E} {pos p : Pos} (G : GMono Γ) (M : Nm X N sc) (hi : N[i]? = some x) (hx : Loc sc x) (hf : X.fn x = true ∨ sc.names.lookup x = some .local) (he : JF X Γ e ir)
    (hs : swapsWith e (some (.Name x p)) pos.line X.env = pure false) : JS X Γ (.Assign [.Name x p] e pos) (.asgO i ir) :=
  PS.imp (ps_set (i := i) (by rw [M.eN]; exact M.nd) (by rw [M.eN]; exact hi) (by rw [M.eS]; exact hx) he hs (by rw [M.eS]; exact hf)) fun D σ H h => asgO_trF G h
theorem js_unp {tg e : Expr} {t : Tg} {ir : E} {pos : Pos} (G : GMono Γ) (he : JE X Γ e ir) (hg : JG X tg t) (hs : swapsWithSole [tg] e pos.line X.env = pure false) (hw : swappedStores [tg] e X.env = pure none)
    (h1 : (assignEach [tg] X.env).map (·.2) = [assign tg X.env]) : JS X Γ (.Assign [tg] e pos) (.unp t ir) :=
  PS.imp (ps_asg he hg hs hw h1) fun D σ H ⟨F, z, σa, B, sr, q⟩ => by
    unfold wpS at q
    exact ⟨F, z, σa, B, sr, wpE_mono G _ _ _ _ _ (fun d B' k z' H' v x b r => ⟨F, z', σa, B', d, sr.step x b, r, bnd_mono (fun σa' k σ' sr' _ => k z' σ' H' (x.xs sr.w) sr') k⟩) q⟩

/-! ### several at once -/
/-- values, each frozen or new -/
def RFs (F : Fr0) (z' : Addr → Prop) (H' : Hp) : Hp → List Bool → List D → List V → Prop
  | _, [], ds, vs => ds = [] ∧ vs = []
  | H, o :: os, ds, vs => ∃ d dr v vr, ds = d :: dr ∧ vs = v :: vr ∧ (match o with | true => RF F H z' H' d v | false => Rep z' F.a0 H' d v) ∧ ∃ H1, (∀ p, H1 p = none → H p = none) ∧ (o = true → ∀ p, v = .ref p → H1 p ≠ none) ∧ RFs F z' H' H1 os dr vr
def trAF (os : List Bool) (Γ : Gm) (es : List E) : TA := fun σ H Q => ∃ F z σa B, SR F z σa B σ H ∧
  wpEs Γ es σa B fun ds B' => ∀ z' H' vs, XE F.a0 F.a1 z H z' H' → BagAt F.a0 F.a1 B' H' → RFs F z' H' H os ds vs → Q vs H'
abbrev JAF (X : Cx) (Γ : Gm) (es : List Expr) (irs : List E) (os : List Bool) : Prop := PA X es (trAF os Γ irs)
theorem RF.stay {F : Fr0} {z z' : Addr → Prop} {H0 H H' : Hp} {d : D} {v : V} {B : Bag} (w0 : BagAt F.a0 F.a1 B H0) (w : ∃ B, WOk F.a0 F.a1 z B H) (x : XE F.a0 F.a1 z H z' H') (h : RF F H0 z H d v) : RF F H0 z' H' d v := by
  obtain ⟨B1, w⟩ := w
  have go : ∀ {p : Addr}, H0 p = none → p ≠ F.a0 ∧ p ≠ F.a1 := fun {p} n => ⟨fun q => by (rw [q, w0.1] at n; cases n), fun q => by (rw [q, w0.2] at n; cases n)⟩
  have nz : ∀ {p : Addr}, ¬ z p → (∃ o, H p = some o) → ¬ z' p := fun {p} n e hz => by
    rcases x.zn p hz with q | ⟨q, _⟩
    · exact n q
    · obtain ⟨o, e⟩ := e
      rw [q] at e; cases e
  cases d <;> try exact Rep.stay (x.xs w) h
  · obtain ⟨p, vs, rfl, n, nz', e, r⟩ := h
    exact ⟨p, vs, rfl, n, nz nz' ⟨_, e⟩, x.ex _ _ e (go n).1 (go n).2, r.stay (x.xs w)⟩
  · obtain ⟨p, vs, rfl, n, nz', e, r⟩ := h
    exact ⟨p, vs, rfl, n, nz nz' e.there, e.keep fun o q => x.ex _ _ q (go n).1 (go n).2, r.stay (x.xs w)⟩
theorem jaf_nil : JAF X Γ [] [] [] := PA.imp pa_nil fun σ H Q ⟨F, z, σa, B, sr, q⟩ => by
  unfold wpEs at q
  exact q z H [] XE.refl sr.w.bag ⟨rfl, rfl⟩
theorem jaf_consV {e : Expr} {es : List Expr} {ir : E} {irs : List E} {os : List Bool} (G : GMono Γ) (he : JE X Γ e ir) (hes : JAF X Γ es irs os) (hs : starEach (e :: es) X.env = (false, eval e X.env) :: starEach es X.env) : JAF X Γ (e :: es) (ir :: irs) (false :: os) :=
  PA.imp (pa_cons he hes hs) fun σ H Q ⟨F, z, σa, B, sr, q⟩ => by
    unfold wpEs at q
    refine ⟨F, z, σa, B, sr, wpE_mono G _ _ _ _ _ (fun d B1 k z1 H1 v x1 b1 r1 => ⟨F, z1, σa, B1, sr.step x1 b1, wpEs_mono G _ _ _ _ _ (fun ds B2 k z2 H2 vs x2 b2 r2 => ?_) k⟩) q⟩
    exact k z2 H2 (v :: vs) (x1.trans x2) b2 ⟨d, ds, v, vs, rfl, rfl, Rep.stay (x2.xs (x1.wok sr.w b1)) r1, H1, x1.dm, (fun e => nomatch e), r2⟩
theorem jaf_consO {e : Expr} {es : List Expr} {ir : E} {irs : List E} {os : List Bool} (G : GMono Γ) (he : JF X Γ e ir) (hes : JAF X Γ es irs os) (hs : starEach (e :: es) X.env = (false, eval e X.env) :: starEach es X.env) : JAF X Γ (e :: es) (ir :: irs) (true :: os) :=
  PA.imp (pa_cons he hes hs) fun σ H Q ⟨F, z, σa, B, sr, q⟩ => by
    unfold wpEs at q
    refine ⟨F, z, σa, B, sr, wpE_mono G _ _ _ _ _ (fun d B1 k z1 H1 v x1 b1 r1 => ⟨F, z1, σa, B1, sr.step x1 b1, wpEs_mono G _ _ _ _ _ (fun ds B2 k z2 H2 vs x2 b2 r2 => ?_) k⟩) q⟩
    have w1 := x1.wok sr.w b1
    by_cases hp : ∀ p, v = .ref p → H1 p ≠ none
    · exact k z2 H2 (v :: vs) (x1.trans x2) b2 ⟨d, ds, v, vs, rfl, rfl, RF.stay sr.w.bag ⟨B1, w1⟩ x2 r1, H1, x1.dm, fun _ => hp, r2⟩
    · exfalso
      refine hp fun p e n => ?_
      subst e
      cases d with
      | non => cases (show Rep z1 F.a0 H1 _ _ from r1).non
      | bl b => cases (show Rep z1 F.a0 H1 _ _ from r1).bl
      | int b => cases (show Rep z1 F.a0 H1 _ _ from r1).int
      | str b => cases (show Rep z1 F.a0 H1 _ _ from r1).str
      | bag =>
        cases (show Rep z1 F.a0 H1 _ _ from r1).bag
        rw [w1.b0] at n; cases n
      | tup ds =>
        obtain ⟨a, us, e, h, _⟩ := (show Rep z1 F.a0 H1 _ _ from r1).tup
        cases e
        rw [n] at h; cases h
      | lst ds =>
        obtain ⟨a, us, e, _, _, h, _⟩ := r1
        cases e
        rw [n] at h; cases h
      | dic ks ds =>
        obtain ⟨a, us, e, _, _, h, _⟩ := r1
        cases e
        obtain ⟨o, h⟩ := h.there
        rw [n] at h; cases h
/-- the slots take the values, from the left -/
def setVs (σ : L2.St) : List Nat → List V → L2.St
  | [], _ => σ
  | i :: is, vs => match vs with | [] => σ | v :: vs => setVs (σ.set i (some v)) is vs
theorem par_go {F : Fr0} {z : Addr → Prop} {B : Bag} {H : Hp} : ∀ (ts : List (Nat × Bool)) {Hk : Hp} {ds : List D} {vs : List V} {σa σa' : List Sl} {σ : L2.St}, SR F z σa B σ H → (∀ (j : Nat) (t : Sl) (p : Addr), σa[j]? = some t → isOwn t = true → σ[j]? = some (some (.ref p)) → Hk p ≠ none) →
    RFs F z H Hk (ts.map (·.2)) ds vs → (∀ p, F.H0 p ≠ none → Hk p ≠ none) → Hk F.a0 ≠ none → Hk F.a1 ≠ none → parT ts ds σa = some σa' → SR F z σa' B (setVs σ (ts.map (·.1)) vs) H ∧ vs.length = ts.length
  | [], Hk, ds, vs, σa, σa', σ, sr, hk, r, h0, n0, n1, e => by
    obtain ⟨rfl, rfl⟩ := r
    simp [parT] at e
    subst e
    exact ⟨sr, rfl⟩
  | (i, o) :: ts, Hk, ds, vs, σa, σa', σ, sr, hk, r, h0, n0, n1, e => by
    obtain ⟨d, dr, v, vr, rfl, rfl, r1, H1, dm, ho, r2⟩ := r
    have h0' : ∀ p, F.H0 p ≠ none → H1 p ≠ none := fun p q e => h0 p q (dm p e)
    have n0' : H1 F.a0 ≠ none := fun e => n0 (dm _ e)
    have n1' : H1 F.a1 ≠ none := fun e => n1 (dm _ e)
    cases o with
    | false =>
      have e : parT ts dr (σa.set i (.va d)) = some σa' := by simpa [parT] using e
      have go := par_go ts (σ := σ.set i (some v)) (sr.setV r1) (fun j t p q1 q2 q3 => by
        rcases set_get q1 with ⟨rfl, rfl⟩ | ⟨hj, q1⟩
        · cases q2
        · rw [List.getElem?_set_ne (Ne.symm hj)] at q3
          exact fun e => hk j t p q1 q2 q3 (dm p e)) r2 h0' n0' n1' e
      exact ⟨go.1, by rw [List.length_cons, List.length_cons, go.2]⟩
    | true =>
      cases es : ownS d with
      | none => simp [parT, es] at e
      | some s =>
        have e : parT ts dr (σa.set i s) = some σa' := by simpa [parT, es] using e
        have own : SlOk F z H s (some (some v)) ∧ isOwn s = true ∧ ∃ p, v = .ref p ∧ Hk p = none := by
          cases d <;> try (simp [ownS] at es; done)
          · simp [ownS] at es
            subst es
            obtain ⟨p, vs, rfl, n, nz, eh, rs⟩ := r1
            exact ⟨⟨p, vs, rfl, ⟨nz, fun q => n0 (q ▸ n), fun q => n1 (q ▸ n), Classical.byContradiction fun q => h0 p q n⟩, eh, rs⟩, rfl, p, rfl, n⟩
          · simp [ownS] at es
            subst es
            obtain ⟨p, vs, rfl, n, nz, eh, rs⟩ := r1
            exact ⟨⟨p, vs, rfl, ⟨nz, fun q => n0 (q ▸ n), fun q => n1 (q ▸ n), Classical.byContradiction fun q => h0 p q n⟩, eh, rs⟩, rfl, p, rfl, n⟩
        obtain ⟨ok, io, p, rfl, n⟩ := own
        have sr' := sr.setS (i := i) ok fun _ j t p' e1 e2 o2 e3 => by
          cases e1
          exact hk j t p e2 o2 e3 n
        have go := par_go ts sr' (fun j t p' q1 q2 q3 => by
          rcases set_get q1 with ⟨rfl, rfl⟩ | ⟨hj, q1⟩
          · have hl : j < σ.length := by
              have := (List.getElem?_eq_some_iff.mp q3).1
              simpa using this
            rw [List.getElem?_set_self hl] at q3
            injection q3 with q3
            injection q3 with q3
            exact ho rfl p' q3
          · rw [List.getElem?_set_ne (Ne.symm hj)] at q3
            exact fun e => hk j t p' q1 q2 q3 (dm p' e)) r2 h0' n0' n1' e
        exact ⟨go.1, by rw [List.length_cons, List.length_cons, go.2]⟩
theorem par_tr {ts : List (Nat × Bool)} {irs : List E} {D : Ends} {σ : L2.St} {H : Hp} (G : GMono Γ) (h : trS Γ (.par ts irs) D σ H) : trAF (ts.map (·.2)) Γ irs σ H fun vs H1 => vs.length = ts.length ∧ D.nx (setVs σ (ts.map (·.1)) vs) H1 := by
  obtain ⟨F, z, σa, B, sr, q⟩ := h
  unfold wpS at q
  refine ⟨F, z, σa, B, sr, wpEs_mono G _ _ _ _ _ (fun ds B' k z' H' vs x b r => ?_) q⟩
  obtain ⟨σa', e, k⟩ := bnd_iff.mp k
  have hb := sr.w.bag
  have go := par_go ts (sr.step x b) (fun j t p e1 o e3 e4 => by
    obtain ⟨q', e5, _, u, e6⟩ := (sr.sl j t e1).own o
    rw [e3] at e5
    cases e5
    rw [e4] at e6; cases e6) r (fun p q e => q (sr.dm p e)) (fun e => by rw [hb.1] at e; cases e) (fun e => by rw [hb.2] at e; cases e) e
  exact ⟨go.2, k z' _ H' (x.xs sr.w) go.1⟩
theorem js_par2 {N : List Str} {sc : Scope} {i j : Nat} {oi oj : Bool} {x y : Str} {a b : Expr} {ia ib : E} {px py pt pos : Pos} {kt k2 : Nat} {pt2 : Pos} (G : GMono Γ) (hc : X.calm = true) (M : Nm X N sc) (hi : N[i]? = some x) (hj : N[j]? = some y) (hij : i ≠ j)
    (hx : sc.names.lookup x = some .local) (hy : sc.names.lookup y = some .local) (ha : JAF X Γ [a, b] [ia, ib] [oi, oj])
    (hw : swappedStores [.Tuple [.Name x px, .Name y py] kt pt] (.Tuple [a, b] k2 pt2) X.env = pure (some [x, y])) (hs : swapsWithSole [.Tuple [.Name x px, .Name y py] kt pt] (.Tuple [a, b] k2 pt2) pos.line X.env = pure false) :
    JS X Γ (.Assign [.Tuple [.Name x px, .Name y py] kt pt] (.Tuple [a, b] k2 pt2) pos) (.par [(i, oi), (j, oj)] [ia, ib]) :=
  PS.imp (ps_par hc (by rw [M.eN]; exact M.nd) (by rw [M.eN]; exact hi) (by rw [M.eN]; exact hj) hij (by rw [M.eS]; exact hx) (by rw [M.eS]; exact hy) ha hw hs) fun D σ H h => by
    obtain ⟨F, z, σa, B, sr, q⟩ := par_tr G h
    refine ⟨F, z, σa, B, sr, wpEs_mono G _ _ _ _ _ (fun ds B' k z' H' vs x b r => ?_) q⟩
    obtain ⟨e, k⟩ := k z' H' vs x b r
    obtain ⟨v, w, rfl⟩ : ∃ v w, vs = [v, w] := by
      match vs, e with
      | [v, w], _ => exact ⟨v, w, rfl⟩
    exact ⟨v, w, rfl, k⟩
theorem js_par3 {N : List Str} {sc : Scope} {i j l : Nat} {oi oj ol : Bool} {x y u : Str} {a b c : Expr} {ia ib ic : E} {px py pu pt pos : Pos} {kt k2 : Nat} {pt2 : Pos} (G : GMono Γ) (hc : X.calm = true) (M : Nm X N sc) (hi : N[i]? = some x) (hj : N[j]? = some y) (hl : N[l]? = some u) (hij : i ≠ j) (hil : i ≠ l) (hjl : j ≠ l)
    (hx : sc.names.lookup x = some .local) (hy : sc.names.lookup y = some .local) (hu : sc.names.lookup u = some .local) (ha : JAF X Γ [a, b, c] [ia, ib, ic] [oi, oj, ol])
    (hw : swappedStores [.Tuple [.Name x px, .Name y py, .Name u pu] kt pt] (.Tuple [a, b, c] k2 pt2) X.env = pure (some [x, y, u])) (hs : swapsWithSole [.Tuple [.Name x px, .Name y py, .Name u pu] kt pt] (.Tuple [a, b, c] k2 pt2) pos.line X.env = pure false) :
    JS X Γ (.Assign [.Tuple [.Name x px, .Name y py, .Name u pu] kt pt] (.Tuple [a, b, c] k2 pt2) pos) (.par [(i, oi), (j, oj), (l, ol)] [ia, ib, ic]) :=
  PS.imp (ps_par3 hc (by rw [M.eN]; exact M.nd) (by rw [M.eN]; exact hi) (by rw [M.eN]; exact hj) (by rw [M.eN]; exact hl) hij hil hjl (by rw [M.eS]; exact hx) (by rw [M.eS]; exact hy) (by rw [M.eS]; exact hu) ha hw hs) fun D σ H h => by
    obtain ⟨F, z, σa, B, sr, q⟩ := par_tr G h
    refine ⟨F, z, σa, B, sr, wpEs_mono G _ _ _ _ _ (fun ds B' k z' H' vs x b r => ?_) q⟩
    obtain ⟨e, k⟩ := k z' H' vs x b r
    obtain ⟨v, w, t, rfl⟩ : ∃ v w t, vs = [v, w, t] := by
      match vs, e with
      | [v, w, t], _ => exact ⟨v, w, t, rfl⟩
    exact ⟨v, w, t, rfl, k⟩
end
end TL


set_option autoImplicit false
/-! The tree layer, part 11: own lists, loops, comprehensions as values. -/
namespace TL
open PySem PySem.Spec PyProof.Rows L2
section
variable {X : Cx} {Γ : Gm}
/-- four names or more: through the tuple -/
theorem pgs_names {N : List Str} {sc : Scope} (M : Nm X N sc) : ∀ {es : List Expr} {is : List Nat}, (∀ k (h : k < es.length), ∃ x p i, es[k]? = some (.Name x p) ∧ is[k]? = some i ∧ N[i]? = some x ∧ sc.names.lookup x = some .local) → es.length = is.length →
    (∀ e es', (e :: es') <:+ es → (assignEach (e :: es') X.env).map (·.2) = assign e X.env :: (assignEach es' X.env).map (·.2)) → PGs X es fun vs σ H Q => vs.length = is.length ∧ Q (setVs σ is vs) H
  | [], [], h, hl, hs => PGs.imp pgs_nil fun vs σ H Q ⟨e, q⟩ => by
    cases vs with
    | nil => exact ⟨rfl, q⟩
    | cons v vs => cases e
  | e :: es, i :: is, h, hl, hs => by
    obtain ⟨x, p, i', h1, h2, h3, h4⟩ := h 0 (by simp)
    simp at h1 h2
    subst h1
    subst h2
    have ih := pgs_names M (es := es) (is := is) (fun k hk => by
      have := h (k + 1) (by simp; omega)
      simpa using this) (by simpa using hl) fun e' es' hh => hs e' es' (hh.trans (List.suffix_cons _ _))
    exact PGs.imp (pgs_cons (pg_name (i := i) (by rw [M.eN]; exact M.nd) (by rw [M.eN]; exact h3) (by rw [M.eS]; exact .inl h4) (by rw [M.eS]; exact .inr h4)) ih (hs _ _ (List.suffix_refl _))) fun vs σ H Q ⟨e, q⟩ => by
      cases vs with
      | nil => cases e
      | cons v vs => exact ⟨v, vs, rfl, by simpa using e, q⟩
theorem js_parN {N : List Str} {sc : Scope} {tg es : List Expr} {ts : List (Nat × Bool)} {irs : List E} {pt pos : Pos} {kt k2 : Nat} {pt2 : Pos} (G : GMono Γ) (hc : X.calm = true) (ht : PGs X tg fun vs σ H Q => vs.length = (ts.map (·.1)).length ∧ Q (setVs σ (ts.map (·.1)) vs) H) (ha : JAF X Γ es irs (ts.map (·.2)))
    (hn : (assignEach tg X.env).length = ts.length) (hst : (assignEach tg X.env).findIdx? (·.1) = none) (hl : ts.length ≤ 1000)
    (hs : swapsWithSole [.Tuple tg kt pt] (.Tuple es k2 pt2) pos.line X.env = pure false) (hw : swappedStores [.Tuple tg kt pt] (.Tuple es k2 pt2) X.env = pure none)
    (h1 : (assignEach [.Tuple tg kt pt] X.env).map (·.2) = [assign (.Tuple tg kt pt) X.env]) : JS X Γ (.Assign [.Tuple tg kt pt] (.Tuple es k2 pt2) pos) (.par ts irs) :=
  PS.imp (ps_asg (pe_tup ha) (pg_tup (n := ts.length) hc ht hn hst) hs hw h1) fun D σ H h => by
    obtain ⟨F, z, σa, B, sr, q⟩ := h
    unfold wpS at q
    refine ⟨F, z, σa, B, sr, wpEs_mono G _ _ _ _ _ (fun ds B' k z' H' vs x b r => ?_) q⟩
    obtain ⟨σa', e, k⟩ := bnd_iff.mp k
    have hb := sr.w.bag
    have go := par_go ts (sr.step x b) (fun j t p e1 o e3 e4 => by
      obtain ⟨q', e5, _, u, e6⟩ := (sr.sl j t e1).own o
      rw [e3] at e5
      cases e5
      rw [e4] at e6; cases e6) r (fun p q e => q (sr.dm p e)) (fun e => by rw [hb.1] at e; cases e) (fun e => by rw [hb.2] at e; cases e) e
    have w1 := x.wok sr.w b
    refine ⟨by rw [LIM_eq, go.2]; exact Nat.le_trans hl (by decide), fun p np => ⟨p, vs, rfl, SqT.of upd_same, go.2, by rw [List.length_map]; exact go.2, ?_⟩⟩
    have x2 : XE F.a0 F.a1 z' H' z' (upd H' p (.tup vs)) := XE.new np
    exact k z' _ _ ((x.trans x2).xs sr.w) (go.1.step x2 (b.new np))

/-! ### own lists -/
theorem app_tr {i : Nat} {ir : E} {D : Ends} {σ : L2.St} {H : Hp} (G : GMono Γ) (h : trS Γ (.app i ir) D σ H) : tDrop (tBM X.K "list" rAppend (tVar i) (trA RVs Γ [ir])) D σ H := by
  obtain ⟨F, z, σa, B, sr, q⟩ := h
  unfold wpS at q
  obtain ⟨xs, e, k⟩ := bnd_iff.mp q
  obtain ⟨p, vs, ev, ow, eh, r⟩ := sr.sl i _ (getO_get e)
  refine ⟨_, ev, .inl ⟨rfl, vs, SqL.of eh⟩, F, z, σa, B, sr, ?_⟩
  unfold wpEs wpEs
  refine wpE_mono G _ _ _ _ _ (fun d B1 k z1 H1 us x1 b1 r1 => ?_) k
  obtain ⟨v, w, rfl, rv, r2⟩ := Reps.uncons r1
  cases r2.of_nil
  have eh1 := x1.ex _ _ eh ow.n0 ow.n1
  have w1 := x1.wok sr.w b1
  refine ⟨p, vs, v, rfl, rfl, eh1, by rw [← r.length, LIM_eq]; exact k.1, ?_⟩
  have sr1 := sr.step x1 b1
  have hu : ∃ u, H1 p = some u ∧ ∀ xs, u ≠ .tup xs := ⟨_, eh1, fun _ e => nomatch e⟩
  have xc := sr1.changeX (o := .lst (vs ++ [v])) (getO_get e) rfl ev hu
  obtain ⟨q', eq, ow1, _⟩ := (sr1.sl i _ (getO_get e)).own rfl
  rw [ev] at eq
  cases eq
  refine k.2 z1 σ _ ((x1.xs sr.w).trans xc) (sr1.change (getO_get e) rfl ev hu ?_)
  exact ⟨p, _, ev, ow1, upd_same, ((r.stay (x1.xs sr.w)).append (Reps.cons rv Reps.nil)).stay xc⟩
theorem ext_tr {i : Nat} {ir : E} {D : Ends} {σ : L2.St} {H : Hp} (G : GMono Γ) (h : trS Γ (.ext i ir) D σ H) : tDrop (tBM X.K "list" rExtend (tVar i) (trA RBs Γ [ir])) D σ H := by
  obtain ⟨F, z, σa, B, sr, q⟩ := h
  unfold wpS at q
  obtain ⟨xs, e, k⟩ := bnd_iff.mp q
  obtain ⟨p, vs, ev, ow, eh, r⟩ := sr.sl i _ (getO_get e)
  refine ⟨_, ev, .inl ⟨rfl, vs, SqL.of eh⟩, F, z, σa, B, sr, ?_⟩
  unfold wpEs wpEs
  refine wpE_mono G _ _ _ _ _ (fun d B1 k z1 H1 us x1 b1 r1 => ?_) k
  obtain ⟨ys, rfl⟩ : ∃ ys, d = .lst ys := by cases d <;> first | exact ⟨_, rfl⟩ | exact False.elim k
  have k : xs.length + ys.length ≤ LIM ∧ (toP F z H D).nx (σa.set i (.ow (xs ++ ys))) B1 := k
  obtain ⟨v, w, rfl, r1, r2⟩ := r1
  cases r2
  obtain ⟨b, ws, rfl, _, ehb, rb⟩ := r1
  have eh1 := x1.ex _ _ eh ow.n0 ow.n1
  have w1 := x1.wok sr.w b1
  refine ⟨p, b, vs, ws, rfl, rfl, eh1, ehb, by rw [← r.length, ← rb.length, LIM_eq]; exact k.1, ?_⟩
  have sr1 := sr.step x1 b1
  have hu : ∃ u, H1 p = some u ∧ ∀ xs, u ≠ .tup xs := ⟨_, eh1, fun _ e => nomatch e⟩
  have xc := sr1.changeX (o := .lst (vs ++ ws)) (getO_get e) rfl ev hu
  obtain ⟨q', eq, ow1, _⟩ := (sr1.sl i _ (getO_get e)).own rfl
  rw [ev] at eq
  cases eq
  refine k.2 z1 σ _ ((x1.xs sr.w).trans xc) (sr1.change (getO_get e) rfl ev hu ?_)
  exact ⟨p, _, ev, ow1, upd_same, ((r.stay (x1.xs sr.w)).append rb).stay xc⟩
theorem js_app {N : List Str} {sc : Scope} {x : Str} {e : Expr} {i : Nat} {ir : E} {pn pa pc pos : Pos} (G : GMono Γ) (M : Nm X N sc) (hn : nameOk N sc x i = true) (he : JE X Γ e ir) (hs : starEach [e] X.env = (false, eval e X.env) :: starEach [] X.env)
    (hbase : attributeBase (.Name x pn) "append" X.env (eval (.Name x pn) X.env) = eval (.Name x pn) X.env)
    (hfew : ((backTo pc (starEach [e] X.env)).all (fun x => !x.1) && (backToKw pc (keywordEach [] X.env)).all (fun x => x.1.isSome)
      && decide ([e].length + ([] : List Keyword).length + (if ([] : List Keyword).isEmpty then 0 else 1) < 30)) = true)
    (hline : (pa.endLine == pc.line) = true) (hplain : (backTo pc (starEach [] X.env)).any (·.1) = false) (hsw : swapsWith (.Call (.Attribute (.Name x pn) "append" pa) [e] [] pc) none pos.line X.env = pure false) :
    JS X Γ (.Expr (.Call (.Attribute (.Name x pn) "append" pa) [e] [] pc) pos) (.app i ir) :=
  PS.imp (ps_expr (pe_bm PySem.F.plainAttrs_list PySem.F.slot_list_append PySem.F.type_list_append mt_append (pe_name M hn) (ja_cons G he (ja_nil fun _ _ _ => Reps.nil) hs) hbase hfew hline hs hplain) hsw) fun D σ H h => app_tr G h
theorem js_ext {N : List Str} {sc : Scope} {x : Str} {e : Expr} {i : Nat} {ir : E} {pn pa pc pos : Pos} (G : GMono Γ) (M : Nm X N sc) (hn : nameOk N sc x i = true) (he : JB X Γ e ir) (hs : starEach [e] X.env = (false, eval e X.env) :: starEach [] X.env)
    (hbase : attributeBase (.Name x pn) "extend" X.env (eval (.Name x pn) X.env) = eval (.Name x pn) X.env)
    (hfew : ((backTo pc (starEach [e] X.env)).all (fun x => !x.1) && (backToKw pc (keywordEach [] X.env)).all (fun x => x.1.isSome)
      && decide ([e].length + ([] : List Keyword).length + (if ([] : List Keyword).isEmpty then 0 else 1) < 30)) = true)
    (hline : (pa.endLine == pc.line) = true) (hplain : (backTo pc (starEach [] X.env)).any (·.1) = false) (hsw : swapsWith (.Call (.Attribute (.Name x pn) "extend" pa) [e] [] pc) none pos.line X.env = pure false) :
    JS X Γ (.Expr (.Call (.Attribute (.Name x pn) "extend" pa) [e] [] pc) pos) (.ext i ir) :=
  PS.imp (ps_expr (pe_bm PySem.F.plainAttrs_list PySem.F.slot_list_extend PySem.F.type_list_extend mt_extend (pe_name M hn) (jab_cons G he (ja_nil fun _ _ _ => rfl) hs) hbase hfew hline hs hplain) hsw) fun D σ H h => ext_tr G h
theorem seti_tr {i : Nat} {ik ir : E} {D : Ends} {σ : L2.St} {H : Hp} (G : GMono Γ) (h : trS Γ (.seti i ik ir) D σ H) : tAsg (tr RV Γ ir) (gSub (tVar i) (tr RB Γ ik) rSetL) D σ H := by
  obtain ⟨F, z, σa, B, sr, q⟩ := h
  unfold wpS at q
  obtain ⟨xs, e, k⟩ := bnd_iff.mp q
  obtain ⟨p, vs, ev, ow, eh, r⟩ := sr.sl i _ (getO_get e)
  refine ⟨F, z, σa, B, sr, wpE_mono G _ _ _ _ _ (fun d B1 k z1 H1 v x1 b1 r1 => ?_) k⟩
  have sr1 := sr.step x1 b1
  refine ⟨_, ev, F, z1, σa, B1, sr1, wpE_mono G _ _ _ _ _ (fun kd B2 k z2 H2 kv x2 b2 r2 => ?_) k⟩
  cases kd with
  | int j =>
    cases r2.int
    obtain ⟨ys, ey, k⟩ := bnd_iff.mp k
    have x12 := x1.trans x2
    have eh1 := x12.ex _ _ eh ow.n0 ow.n1
    have w1 := x12.wok sr.w b2
    unfold setAt at ey
    cases hj : L2.ixN xs.length j with
    | none => rw [hj] at ey; cases ey
    | some n =>
      rw [hj] at ey
      injection ey with ey
      subst ey
      refine ⟨p, vs, j, n, rfl, rfl, eh1, by rw [← r.length]; exact hj, ?_⟩
      have sr2 := sr1.step x2 b2
      have hu : ∃ u, H2 p = some u ∧ ∀ xs, u ≠ .tup xs := ⟨_, eh1, fun _ e => nomatch e⟩
      have xc := sr2.changeX (o := .lst (vs.set n v)) (getO_get e) rfl ev hu
      obtain ⟨q', eq, ow1, _⟩ := (sr2.sl i _ (getO_get e)).own rfl
      rw [ev] at eq
      cases eq
      refine k z2 σ _ ((x12.xs sr.w).trans xc) (sr2.change (getO_get e) rfl ev hu ?_)
      exact ⟨p, _, ev, ow1, upd_same, ((r.stay (x12.xs sr.w)).set n (r1.stay (x2.xs sr1.w))).stay xc⟩
  | _ => exact False.elim k
theorem js_seti {N : List Str} {sc : Scope} {x : Str} {e k : Expr} {i : Nat} {ik ir : E} {pn pt pos : Pos} (G : GMono Γ) (M : Nm X N sc) (hn : nameOk N sc x i = true) (hk : JB X Γ k ik) (he : JE X Γ e ir)
    (ha : ∀ v, assign (.Subscript (.Name x pn) k pt) X.env v = (do
      let ov ← holding [v] (eval (.Name x pn) X.env)
      let iv ← holding [v, ov] (eval k X.env)
      standAt pt
      holding [v, ov, iv] (setItem ov iv v)
      release [v, ov, iv] []))
    (hs : swapsWithSole [.Subscript (.Name x pn) k pt] e pos.line X.env = pure false) (hw : swappedStores [.Subscript (.Name x pn) k pt] e X.env = pure none)
    (h1 : (assignEach [.Subscript (.Name x pn) k pt] X.env).map (·.2) = [assign (.Subscript (.Name x pn) k pt) X.env]) : JS X Γ (.Assign [.Subscript (.Name x pn) k pt] e pos) (.seti i ik ir) :=
  PS.imp (ps_asg he (pg_sub (pe_name M hn) hk set_list ha) hs hw h1) fun D σ H h => seti_tr G h

/-! ### loops -/
theorem fr_tr {tg : Tg} {k : IK} {es : List E} {b : List S} {De : Ends} {σ : L2.St} {H : Hp} (G : GMono Γ) (h : trS Γ (.fr tg k es b) De σ H) : tFor (trI false Γ k es) (trG tg) (trSs Γ b) De σ H := by
  obtain ⟨F, z, σa, B, sr, q⟩ := h
  unfold wpS at q
  refine ⟨F, z, σa, B, sr, wpEs_mono G _ _ _ _ _ (fun ds B1 k1 => iterD_mono (fun xs k2 z1 H1 J x1 b1 hJ hl => ?_) k1) q⟩
  have hJ : ItR (LS z1 H1) F J xs := hJ
  obtain ⟨f, hf⟩ : ∃ f, (fun (x : D) (P : Pst) (σ : List Sl) (B : Bag) => bnd (bindT tg x σ) fun σ' => wpSs Γ b P σ' B) = f := ⟨_, rfl⟩
  have k2 : loopL f xs (toP F z H De) σa B1 := by rw [← hf]; exact k2
  have fm : ∀ x (P P' : Pst) σ B, P.Le P' → f x P σ B → f x P' σ B := by
    rw [← hf]
    exact fun x P P' σ B h u => bnd_mono (fun _ v => wpSs_mono G b P P' _ _ h v) u
  have k2 : loopL f xs (toP F z1 H1 De) σa B1 := loopL_mono fm xs _ _ _ _ (toP_le (x1.xs sr.w)) k2
  refine ⟨fun i m σ H => m = xs.length - i ∧ i ≤ xs.length ∧ ∃ z' σa' B', XS z1 H1 z' H ∧ SR F z' σa' B' σ H ∧ loopL f (xs.drop i) (toP F z1 H1 De) σa' B', ⟨xs.length, by simp, Nat.zero_le _, z1, σa, B1, XS.refl, sr.step x1 b1, by simpa using k2⟩, ?_⟩
  rintro i m σ2 H2 ⟨rfl, hi, z2, σa2, B2, y2, sr2, kk⟩
  by_cases hlt : i < xs.length
  · have hx : xs[i]? = some xs[i] := List.getElem?_eq_getElem hlt
    obtain ⟨go, yl⟩ := (hJ z2 H2 B2 sr2.w y2 i).1 _ hx
    rw [List.drop_eq_getElem_cons hlt] at kk
    unfold loopL at kk
    obtain ⟨Lr, hLr⟩ : ∃ Lr, loopL f (xs.drop (i + 1)) (toP F z1 H1 De) = Lr := ⟨_, rfl⟩
    rw [hLr] at kk
    refine .inr ⟨go, fun σ' H' => ∃ m', m' < xs.length - i ∧ _, fun σ' H' h => h, fun x H3 hy => ?_⟩
    obtain ⟨z3, x3, b3, r3⟩ := yl x H3 hy
    have sr3 := sr2.step x3 b3
    have y3 := y2.trans (x3.xs sr2.w)
    rw [← hf] at kk
    refine ⟨F, z3, σa2, B2, _, sr3, r3, bnd_mono (fun σa4 k4 σ4 sr4 _ => ?_) kk⟩
    refine ⟨F, z3, σa4, B2, sr4, wpSs_mono G b ⟨Lr, (toP F z1 H1 De).rt, (toP F z1 H1 De).nx, Lr⟩ _ _ _ ⟨fun σ' B' k z' σ5 H5 y r => ?_, fun _ _ k z' _ _ _ _ y r u => k z' _ _ _ _ (y3.trans y) r u, fun σ' B' k z' σ5 H5 y r => k z' σ5 H5 (y3.trans y) r, fun σ' B' k z' σ5 H5 y r => ?_⟩ k4⟩
    · exact ⟨xs.length - (i + 1), by omega, rfl, hlt, z', σ', B', y3.trans y, r, by rw [hLr]; exact k⟩
    · exact ⟨xs.length - (i + 1), by omega, rfl, hlt, z', σ', B', y3.trans y, r, by rw [hLr]; exact k⟩
  · have e : i = xs.length := by omega
    subst e
    refine .inl ⟨(hJ z2 H2 B2 sr2.w y2 _).2 rfl, ?_⟩
    rw [List.drop_length] at kk
    exact kk z2 σ2 H2 y2 sr2
theorem js_fr {tg iter : Expr} {body : List Stmt} {t : Tg} {k : IK} {es : List E} {b : List S} {pos : Pos} (G : GMono Γ) (hp : PassesOwn (model X.prog X.w) X.A X.env X.xe) (hc : X.calm = true) (hi : JI X false Γ tg iter k es) (hg : JG X tg t) (hb : JSs X Γ body b)
    (hs : ∀ x, foldedSetIterable iter X.env x = pure x) : JS X Γ (.For tg iter body [] pos) (.fr t k es b) :=
  PS.imp (ps_for hp hc hi hg hb hs) fun D σ H h => fr_tr G h
theorem whl_tr {c : E} {b : List S} {D : Ends} {σ : L2.St} {H : Hp} (G : GMono Γ) (h : trS Γ (.whl c b) D σ H) : tWhile (trT Γ c) (trSs Γ b) D σ H := by
  obtain ⟨F, z, σa, B, sr, q⟩ := h
  unfold wpS at q
  obtain ⟨n, q⟩ := q
  obtain ⟨f, hf⟩ : ∃ f, (fun (σ : List Sl) (B : Bag) (K : Bool → Bag → Prop) => wpE Γ c σ B fun d B1 => tst d fun t => K t B1) = f := ⟨_, rfl⟩
  have q : whileN f (wpSs Γ b) n (toP F z H D) σa B := by rw [← hf]; exact q
  refine ⟨fun m σ' H' => ∃ z' σa' B', XS z H z' H' ∧ SR F z' σa' B' σ' H' ∧ whileN f (wpSs Γ b) m (toP F z H D) σa' B', ⟨n, z, σa, B, XS.refl, sr, q⟩, ?_⟩
  rintro m σ1 H1 ⟨z1, σa1, B1, y1, sr1, k⟩
  cases m with
  | zero => exact False.elim k
  | succ m =>
    unfold whileN at k
    have k : f σa1 B1 fun t B2 => if t = true then wpSs Γ b ⟨whileN f (wpSs Γ b) m (toP F z H D), (toP F z H D).rt, (toP F z H D).nx, whileN f (wpSs Γ b) m (toP F z H D)⟩ σa1 B2 else (toP F z H D).nx σa1 B2 := k
    obtain ⟨W, hW⟩ : ∃ W, whileN f (wpSs Γ b) m (toP F z H D) = W := ⟨_, rfl⟩
    rw [hW] at k
    rw [← hf] at k
    refine ⟨F, z1, σa1, B1, sr1, wpE_mono G _ _ _ _ _ (fun d B2 k => tst_mono (fun t k z2 H2 x2 b2 => ?_) k) k⟩
    have y2 := y1.trans (x2.xs sr1.w)
    have sr2 := sr1.step x2 b2
    cases t with
    | false => exact k z2 σ1 H2 y2 sr2
    | true =>
      refine ⟨fun σ' H' => ∃ m', m' < m + 1 ∧ _, fun σ' H' h => h, F, z2, σa1, B2, sr2, wpSs_mono G b ⟨W, (toP F z H D).rt, (toP F z H D).nx, W⟩ _ _ _ ⟨fun σ' B' k z' σ5 H5 y r => ?_, fun _ _ k z' _ _ _ _ y r u => k z' _ _ _ _ (y2.trans y) r u, fun σ' B' k z' σ5 H5 y r => k z' σ5 H5 (y2.trans y) r, fun σ' B' k z' σ5 H5 y r => ?_⟩ k⟩
      · exact ⟨m, Nat.lt_succ_self _, z', σ', B', y2.trans y, r, by rw [hW]; exact k⟩
      · exact ⟨m, Nat.lt_succ_self _, z', σ', B', y2.trans y, r, by rw [hW]; exact k⟩
theorem js_whl {c : Expr} {body : List Stmt} {ic : E} {b : List S} {pos : Pos} (G : GMono Γ) (hp : PassesOwn (model X.prog X.w) X.A X.env X.xe) (hc : JT X Γ c ic) (hb : JSs X Γ body b) : JS X Γ (.While c body [] pos) (.whl ic b) :=
  PS.imp (ps_while hp hc hb) fun D σ H h => whl_tr G h

/-! ### comprehensions -/
theorem jf_lc {N : List Str} {sc scope : Scope} {elt tg iter : Expr} {ifs : List Expr} {own : List (Str × Nat)} {k : IK} {es : List E} {t : Tg} {ic iel : E} {pos : Pos} (G : GMono Γ) (hc : X.calm = true) (M : Nm X N sc) (hi : JI X true Γ tg iter k es) (ok : BlkOk X.N X.env.scope scope own)
    (hg : ∀ (s : Shared) (H : Hp) (C : Addr) (cl : List (Str × Addr)) (fp : List Addr), JG (X.blk s H scope (compEnvC scope cl C X.env) fp) tg t) (ht : ∀ (s : Shared) (H : Hp) (C : Addr) (cl : List (Str × Addr)) (fp : List Addr), PTs (X.blk s H scope (compEnvC scope cl C X.env) fp) ifs (trT Γ ic))
    (he : ∀ (s : Shared) (H : Hp) (C : Addr) (cl : List (Str × Addr)) (fp : List Addr), JE (X.blk s H scope (compEnvC scope cl C X.env) fp) Γ elt iel) (hs : ∀ x, foldedSetIterable iter X.env x = pure x)
    (hown : ∀ i ∈ tgVars t, i ∈ own.map (·.2)) : JF X Γ (.ListComp elt [⟨tg, iter, ifs, 0⟩] scope pos) (.lc k es t (own.map (·.2)) ic iel) :=
  PE.imp (pe_lc hc (by rw [M.eN]; exact M.nd) hi ok hg ht he hs) fun σ H Q h => lc_tr G hown h
def asgS (o : Bool) (i : Nat) (e : E) : S := match o with
  | true => .asgO i e
  | false => .asg i e
theorem js_asgLc {N : List Str} {sc scope : Scope} {y : Str} {i : Nat} {elt tg iter : Expr} {ifs : List Expr} {own : List (Str × Nat)} {k : IK} {es : List E} {t : Tg} {ic iel : E} {py pos spos : Pos} (o : Bool) (G : GMono Γ) (hc : X.calm = true) (M : Nm X N sc) (hy : N[i]? = some y) (hyl : sc.names.lookup y = some .local)
    (hsw : swapsWith (.ListComp elt [⟨tg, iter, ifs, 0⟩] scope pos) (some (.Name y py)) spos.line X.env = pure true) (hi : JI X true Γ tg iter k es) (ok : BlkOk X.N X.env.scope scope own)
    (hg : ∀ (s : Shared) (H : Hp) (C : Addr) (cl : List (Str × Addr)) (fp : List Addr), JG (X.blk s H scope (compEnvC scope cl C X.env) fp) tg t) (ht : ∀ (s : Shared) (H : Hp) (C : Addr) (cl : List (Str × Addr)) (fp : List Addr), PTs (X.blk s H scope (compEnvC scope cl C X.env) fp) ifs (trT Γ ic))
    (he : ∀ (s : Shared) (H : Hp) (C : Addr) (cl : List (Str × Addr)) (fp : List Addr), JE (X.blk s H scope (compEnvC scope cl C X.env) fp) Γ elt iel) (hs : ∀ x, foldedSetIterable iter X.env x = pure x)
    (hown : ∀ i ∈ tgVars t, i ∈ own.map (·.2)) : JS X Γ (.Assign [.Name y py] (.ListComp elt [⟨tg, iter, ifs, 0⟩] scope pos) spos) (asgS o i (.lc k es t (own.map (·.2)) ic iel)) :=
  PS.imp (ps_setLc (i := i) hc (by rw [M.eN]; exact M.nd) (by rw [M.eN]; exact hy) (by rw [M.eS]; exact hyl) hsw hi ok hg ht he hs) fun D σ H h => by
    cases o with
    | true => exact lc_tr G hown (asgO_trF G h)
    | false => exact lc_tr G hown (asg_trF G h)
end
end TL


set_option autoImplicit false
/-! The tree layer, part 12: the rules in short, for printed texts. -/
namespace TL
open PySem PySem.Spec PyProof.Rows L2
/-- a known def: its number, name, parameters, how it is called by keywords (written values, keywords, which goes where) -/
structure Fn where
  i : Nat
  x : Str
  ps : List Str
  kw : List (Nat × List Str × List Nat) := []
/-- the static side: slots, scope, which slots are visible, locals, cells; which names are global -/
structure Sg where
  N : List Str
  sc : Scope
  V : List Nat
  L : List Nat
  C : List Nat
  G : List Str
structure Pg where
  fs : List Fn
  gs : List (Str × Int)
/-- the builtins that the layer reads -/
def BLT : List Str := ["len", "abs", "max", "min", "sum", "int", "tuple", "list", "sorted", "all", "any", "isinstance", "range", "zip", "reversed", "enumerate", "set", "bool", "str", "repr", "dict"]
def Known (P : Program) (w : World) (K : PySem.W.Frag) (mg : Str → Option Value) (base : Heap) (k : Nat) (t : Fn) (sem : Sm) : Prop :=
  ∃ f fd, FnOk P w K mg base CX0 k f fd t.ps (spOf t.ps.length sem) ∧ mg t.x = some (.ref f) ∧ PySem.W.keepIn K (.ref f) = true ∧ Binds K fd t.ps [] ∧ ∀ q ∈ t.kw, KwB K fd t.ps q.1 q.2.1 q.2.2
structure Wd (X : Cx) (k : Nat) (s : Sg) (p : Pg) (Γ : Gm) : Prop where
  calm : X.calm = true
  room : Room k X.A
  pass : PassesOwn (model X.prog X.w) X.A X.env X.xe
  blt : ∀ x ∈ BLT, X.mg x = none
  fn : ∀ t ∈ p.fs, Known X.prog X.w X.K X.mg X.base k t (Γ t.i)
  gl : ∀ t ∈ p.gs, ∃ tk, X.mg t.1 = some (.int t.2 tk)
  G : GMono Γ
  M : Nm X s.N s.sc
  v : ∀ i ∈ s.V, ∀ x, s.N[i]? = some x → nameOk s.N s.sc x i = true
  l : ∀ i ∈ s.L, ∀ x, s.N[i]? = some x → s.sc.names.lookup x = some .local
  c : ∀ i ∈ s.C, ∀ x, s.N[i]? = some x → s.sc.names.lookup x = some .cell ∧ X.fn x = true
  g : ∀ x ∈ s.G, s.sc.names.lookup x = some .globalImplicit
  kd : s.sc.kind = .function
/-- the static side, checked -/
def sgB (s : Sg) : Bool := decide s.N.Nodup && (s.V.all fun i => match s.N[i]? with | some x => nameOk s.N s.sc x i | none => true) && (s.L.all fun i => match s.N[i]? with | some x => decide (s.sc.names.lookup x = some .local) | none => true) &&
  (s.C.all fun i => match s.N[i]? with | some x => decide (s.sc.names.lookup x = some .cell) | none => true) && (s.G.all fun x => decide (s.sc.names.lookup x = some .globalImplicit)) && decide (s.sc.kind = .function)
structure SgOk (s : Sg) : Prop where
  nd : s.N.Nodup
  v : ∀ i ∈ s.V, ∀ x, s.N[i]? = some x → nameOk s.N s.sc x i = true
  l : ∀ i ∈ s.L, ∀ x, s.N[i]? = some x → s.sc.names.lookup x = some .local
  c : ∀ i ∈ s.C, ∀ x, s.N[i]? = some x → s.sc.names.lookup x = some .cell
  g : ∀ x ∈ s.G, s.sc.names.lookup x = some .globalImplicit
  kd : s.sc.kind = .function
theorem sg_by {s : Sg} (h : sgB s = true) : SgOk s := by
  unfold sgB at h
  simp only [Bool.and_eq_true, List.all_eq_true, decide_eq_true_eq] at h
  obtain ⟨⟨⟨⟨⟨h1, h2⟩, h3⟩, h4⟩, h5⟩, h6⟩ := h
  refine ⟨h1, fun i hi x e => ?_, fun i hi x e => ?_, fun i hi x e => ?_, h5, h6⟩
  · have := h2 i hi
    rw [e] at this
    exact this
  · have := h3 i hi
    rw [e] at this
    exact of_decide_eq_true this
  · have := h4 i hi
    rw [e] at this
    exact of_decide_eq_true this
theorem mem_of {α : Type} [BEq α] [LawfulBEq α] {a : α} {l : List α} (h : l.contains a = true) : a ∈ l := by simpa using h
section
variable {X : Cx} {k : Nat} {s : Sg} {p : Pg} {Γ : Gm}
namespace Wd
/-- a comprehension's block -/
theorem blk (W : Wd X k s p Γ) {s' : Sg} (h : SgOk s') (hN : s'.N = s.N) {scope : Scope} (hs : s'.sc = relS scope s.sc) (hc : (s'.C.all fun i => match s'.N[i]? with | some x => scope.names.lookup x == some .cell | none => true) = true) (S : Shared) (H : Hp) (C : Addr) (cl : List (Str × Addr)) (fp : List Addr) : Wd (X.blk S H scope (compEnvC scope cl C X.env) fp) k s' p Γ where
  calm := W.calm
  room := W.room
  pass := PassesOwn.never
  blt := W.blt
  fn := W.fn
  gl := W.gl
  G := W.G
  M := ⟨by rw [hN]; exact W.M.eN, h.nd, by
    rw [hs]
    show relabel scope X.env = relS scope s.sc
    rw [← W.M.eS]
    rfl⟩
  v := h.v
  l := h.l
  c := fun i hi x e => ⟨h.c i hi x e, by
    have := List.all_eq_true.mp hc i hi
    rw [e] at this
    exact this⟩
  g := h.g
  kd := h.kd
theorem gl' (W : Wd X k s p Γ) {x : Str} (h : s.G.contains x = true) : Gl X x := by
  show X.env.scope.names.lookup x = _
  rw [W.M.eS]
  exact W.g x (mem_of h)
theorem loc (W : Wd X k s p Γ) {x : Str} {i : Nat} (hi : s.N[i]? = some x) (h : s.L.contains i = true ∨ s.C.contains i = true) : Loc s.sc x ∧ (X.fn x = true ∨ s.sc.names.lookup x = some .local) := by
  rcases h with h | h
  · exact ⟨.inl (W.l i (mem_of h) x hi), .inr (W.l i (mem_of h) x hi)⟩
  · exact ⟨.inr (W.c i (mem_of h) x hi).1, .inl (W.c i (mem_of h) x hi).2⟩
/-! ### expressions -/
theorem je (W : Wd X k s p Γ) {e : Expr} {ir : E} (h : JF X Γ e ir) : JE X Γ e ir := JF.je W.G h
theorem jb (W : Wd X k s p Γ) {e : Expr} {ir : E} (h : JE X Γ e ir) : JB X Γ e ir := JE.jb W.G h
theorem fb (W : Wd X k s p Γ) {e : Expr} {ir : E} (h : JF X Γ e ir) : JB X Γ e ir := JE.jb W.G (JF.je W.G h)
theorem var (W : Wd X k s p Γ) {x : Str} {pos : Pos} {i : Nat} (hi : s.N[i]? = some x := by rfl) (hv : s.V.contains i = true := by rfl) : JE X Γ (.Name x pos) (.var i) := je_var W.M (W.v i (mem_of hv) x hi)
theorem bor (W : Wd X k s p Γ) {x : Str} {pos : Pos} {i : Nat} (hi : s.N[i]? = some x := by rfl) (hv : s.V.contains i = true := by rfl) : JB X Γ (.Name x pos) (.bor i) := jb_bor W.M (W.v i (mem_of hv) x hi)
theorem int (W : Wd X k s p Γ) {i : Int} {j : Nat} {pos : Pos} : JE X Γ (.Constant (.int i) j pos) (.int i) := je_int
theorem bl (W : Wd X k s p Γ) {i : Bool} {j : Nat} {pos : Pos} : JE X Γ (.Constant (.bool i) j pos) (.bl i) := je_bl
theorem non (W : Wd X k s p Γ) {j : Nat} {pos : Pos} : JE X Γ (.Constant .none j pos) .non := je_non
theorem str (W : Wd X k s p Γ) {x : Str} {j : Nat} {pos : Pos} : JE X Γ (.Constant (.str x) j pos) (.str x) := je_str
theorem glb (W : Wd X k s p Γ) (n : Nat) {x : Str} {i : Int} {pos : Pos} (h : p.gs[n]? = some (x, i) := by rfl) (hg : s.G.contains x = true := by decide +kernel) (hd : (x == ("__debug__" : Str)) = false := by decide +kernel) : JE X Γ (.Name x pos) (.glb n i) := by
  obtain ⟨t, e⟩ := W.gl _ (List.mem_of_getElem? h)
  exact je_glb (t := t) (W.gl' hg) e hd
theorem bin (W : Wd X k s p Γ) (o : BOp) {a b : Expr} {ia ib : E} {pos : Pos} (ha : JB X Γ a ia) (hb : JB X Γ b ib) : JF X Γ (.BinOp a (opOf o) b pos) (.bin o ia ib) := jf_bin W.G ha hb
theorem neg (W : Wd X k s p Γ) {a : Expr} {ia : E} {pos : Pos} (ha : JB X Γ a ia) : JF X Γ (.UnaryOp .USub a pos) (.neg ia) := jf_neg W.G ha
theorem hu (W : Wd X k s p Γ) : X.A.units + 65 < cLine := by have := W.room.un; omega
theorem cmp (W : Wd X k s p Γ) (o : COp) {a b : Expr} {ia ib : E} {pos : Pos} (ha : JB X Γ a ia) (hb : JB X Γ b ib) (hm : behindInMarks (copOf o) b = false := by rfl) : JF X Γ (.Compare a [copOf o] [b] pos) (.cmp o ia ib) := jf_cmp W.hu W.G ha hb hm
theorem cmpT (W : Wd X k s p Γ) (o : COp) {a b : Expr} {ia ib : E} {pos : Pos} (ha : JB X Γ a ia) (hb : JB X Γ b ib) (hm : behindInMarks (copOf o) b = false := by rfl) : JT X Γ (.Compare a [copOf o] [b] pos) (.cmp o ia ib) := jt_cmp W.hu W.G ha hb hm
theorem chn (W : Wd X k s p Γ) (o q : COp) {a b c : Expr} {ia ib ic : E} {pos : Pos} (ha : JB X Γ a ia) (hb : JB X Γ b ib) (hc : JB X Γ c ic) (hm : lastMarks [copOf o, copOf q] [b, c] = false := by rfl) : JF X Γ (.Compare a [copOf o, copOf q] [b, c] pos) (.chn o q ia ib ic) := jf_chn W.hu W.G ha hb hc hm
theorem chnT (W : Wd X k s p Γ) (o q : COp) {a b c : Expr} {ia ib ic : E} {pos : Pos} (ha : JB X Γ a ia) (hb : JB X Γ b ib) (hc : JB X Γ c ic) (hm : lastMarks [copOf o, copOf q] [b, c] = false := by rfl) : JT X Γ (.Compare a [copOf o, copOf q] [b, c] pos) (.chn o q ia ib ic) := jt_chn W.hu W.G ha hb hc hm
theorem nt (W : Wd X k s p Γ) {a : Expr} {ia : E} {pos : Pos} (ha : JT X Γ a ia) : JT X Γ (.UnaryOp .Not a pos) (.nt ia) := jt_not W.G ha
theorem tstE (W : Wd X k s p Γ) {e : Expr} {ir : E} (h : JE X Γ e ir) (he : ∀ whole, isTrue e X.env whole = (do let v ← whole; standAt e.pos; holding [v] (truthy v)) := by intro _; rfl) : JT X Γ e ir := JE.jt W.G h he
theorem one (W : Wd X k s p Γ) {op : BoolOp} {a : Expr} {ia : E} {pos : Pos} (h : JE X Γ a ia) : JE X Γ (.BoolOp op [a] pos) ia := pe_one h
theorem anV (W : Wd X k s p Γ) {a b : Expr} {rest : List Expr} {ia ib : E} {pos : Pos} (ha : JE X Γ a ia) (hb : JE X Γ (.BoolOp .And (b :: rest) pos) ib) : JE X Γ (.BoolOp .And (a :: b :: rest) pos) (.an ia ib) := je_an W.G ha hb
theorem orV (W : Wd X k s p Γ) {a b : Expr} {rest : List Expr} {ia ib : E} {pos : Pos} (ha : JE X Γ a ia) (hb : JE X Γ (.BoolOp .Or (b :: rest) pos) ib) : JE X Γ (.BoolOp .Or (a :: b :: rest) pos) (.or ia ib) := je_or W.G ha hb
theorem oneA (W : Wd X k s p Γ) {a : Expr} {ia : E} {pos : Pos} (h : JT X Γ a ia) : JW X Γ (.BoolOp .And [a] pos) ia := pw_and1 h
theorem oneO (W : Wd X k s p Γ) {a : Expr} {ia : E} {pos : Pos} (h : JT X Γ a ia) : JW X Γ (.BoolOp .Or [a] pos) ia := pw_or1 h
theorem an (W : Wd X k s p Γ) {a b : Expr} {rest : List Expr} {ia ib : E} {pos : Pos} (ha : JT X Γ a ia) (hb : JW X Γ (.BoolOp .And (b :: rest) pos) ib) : JW X Γ (.BoolOp .And (a :: b :: rest) pos) (.an ia ib) := jw_an W.G ha hb
theorem or (W : Wd X k s p Γ) {a b : Expr} {rest : List Expr} {ia ib : E} {pos : Pos} (ha : JT X Γ a ia) (hb : JW X Γ (.BoolOp .Or (b :: rest) pos) ib) : JW X Γ (.BoolOp .Or (a :: b :: rest) pos) (.or ia ib) := jw_or W.G ha hb
theorem wt (W : Wd X k s p Γ) {a : Expr} {ia : E} (h : JW X Γ a ia) : JT X Γ a ia := PW.pt h
theorem ntV (W : Wd X k s p Γ) {a : Expr} {ia : E} {pos : Pos} (ha : JE X Γ a ia) : JF X Γ (.UnaryOp .Not a pos) (.nt ia) := jf_not W.G ha
theorem ite (W : Wd X k s p Γ) {c a b : Expr} {ic ia ib : E} {pos : Pos} (hc : JT X Γ c ic) (ha : JE X Γ a ia) (hb : JE X Γ b ib) : JE X Γ (.IfExp c a b pos) (.ite ic ia ib) := j_ite W.G (fun _ _ _ _ _ _ _ _ h => h) hc ha hb
theorem iteF (W : Wd X k s p Γ) {c a b : Expr} {ic ia ib : E} {pos : Pos} (hc : JT X Γ c ic) (ha : JF X Γ a ia) (hb : JF X Γ b ib) : JF X Γ (.IfExp c a b pos) (.ite ic ia ib) := j_ite W.G (fun _ _ _ _ _ _ _ k h => RF.old k h) hc ha hb
/-! ### argument lists -/
theorem n (W : Wd X k s p Γ) : JA X Γ [] [] := ja_nil fun _ _ _ => Reps.nil
theorem a (W : Wd X k s p Γ) {e : Expr} {es : List Expr} {ir : E} {irs : List E} (he : JE X Γ e ir) (hes : JA X Γ es irs) (hs : starEach (e :: es) X.env = (false, eval e X.env) :: starEach es X.env := by rfl) : JA X Γ (e :: es) (ir :: irs) := ja_cons W.G he hes hs
theorem nb (W : Wd X k s p Γ) : JAB X Γ [] [] := ja_nil fun _ _ _ => rfl
theorem ab (W : Wd X k s p Γ) {e : Expr} {es : List Expr} {ir : E} {irs : List E} (he : JB X Γ e ir) (hes : JAB X Γ es irs) (hs : starEach (e :: es) X.env = (false, eval e X.env) :: starEach es X.env := by rfl) : JAB X Γ (e :: es) (ir :: irs) := jab_cons W.G he hes hs
theorem nf (W : Wd X k s p Γ) : JAF X Γ [] [] [] := jaf_nil
theorem av (W : Wd X k s p Γ) {e : Expr} {es : List Expr} {ir : E} {irs : List E} {os : List Bool} (he : JE X Γ e ir) (hes : JAF X Γ es irs os) (hs : starEach (e :: es) X.env = (false, eval e X.env) :: starEach es X.env := by rfl) : JAF X Γ (e :: es) (ir :: irs) (false :: os) := jaf_consV W.G he hes hs
theorem ao (W : Wd X k s p Γ) {e : Expr} {es : List Expr} {ir : E} {irs : List E} {os : List Bool} (he : JF X Γ e ir) (hes : JAF X Γ es irs os) (hs : starEach (e :: es) X.env = (false, eval e X.env) :: starEach es X.env := by rfl) : JAF X Γ (e :: es) (ir :: irs) (true :: os) := jaf_consO W.G he hes hs
theorem nk (W : Wd X k s p Γ) : JK X Γ [] [] := jk_nil
theorem ak (W : Wd X k s p Γ) {nm : Option Str} {e : Expr} {kpos : Pos} {kws : List Keyword} {ir : E} {irs : List E} (he : JE X Γ e ir) (hes : JK X Γ kws irs) : JK X Γ (⟨nm, e, kpos⟩ :: kws) (ir :: irs) := jk_cons W.G he hes
theorem tup (W : Wd X k s p Γ) {es : List Expr} {irs : List E} {j : Nat} {pos : Pos} (h : JA X Γ es irs) (hl : decide (irs.length ≤ 1000) = true := by rfl) : JF X Γ (.Tuple es j pos) (.tup irs) := jf_tup W.G h (of_decide_eq_true hl)
theorem lst (W : Wd X k s p Γ) {es : List Expr} {irs : List E} {pos : Pos} (h : JA X Γ es irs) (hl : decide (irs.length ≤ 1000) = true := by rfl) : JF X Γ (.List es pos) (.lst irs) := jf_lst W.G h (of_decide_eq_true hl)
theorem idx (W : Wd X k s p Γ) {a b : Expr} {ia ib : E} {pos : Pos} (ha : JB X Γ a ia) (hb : JB X Γ b ib) (hp : PlainIx b := by exact fun _ _ => rfl) : JE X Γ (.Subscript a b pos) (.idx ia ib) := je_idx W.G ha hb hp
theorem p0 (W : Wd X k s p Γ) : JP X Γ none .non := jp_none
theorem p1 (W : Wd X k s p Γ) {e : Expr} {ir : E} (h : JB X Γ e ir) (hn : absE ir = false := by rfl) : JP X Γ (some e) ir := jp_some W.G h hn
theorem slc (W : Wd X k s p Γ) {a : Expr} {lo hi : Option Expr} {ia il ih : E} {pos p2 : Pos} (ha : JB X Γ a ia) (hl : JP X Γ lo il) (hh : JP X Γ hi ih) : JF X Γ (.Subscript a (.Slice lo hi none p2) pos) (.slc ia il ih) := jf_slc W.G ha hl hh
/-! ### calls -/
theorem call (W : Wd X k s p Γ) (j : Nat) {t : Fn} {x : Str} {e : Expr} {es : List Expr} {irs : List E} {i : Nat} {p2 pos : Pos} (ha : JA X Γ (e :: es) irs) (h : p.fs[j]? = some t := by rfl) (hi : t.i = i := by rfl) (hx : t.x = x := by rfl) (hg : s.G.contains x = true := by decide +kernel) (hl : irs.length = t.ps.length := by rfl)
    (hdb : (x == ("__debug__" : Str)) = false := by decide +kernel) (he : starEach (e :: es) X.env = (false, eval e X.env) :: starEach es X.env := by rfl) (hpl : (backTo pos (starEach es X.env)).any (·.1) = false := by rfl) :
    JE X Γ (.Call (.Name x p2) (e :: es) [] pos) (.call i irs) := by
  subst hi hx
  obtain ⟨f, fd, F, hm, hk, hb, _⟩ := W.fn t (List.mem_of_getElem? h)
  exact je_call W.G rfl F W.room (W.gl' hg) hm hk hb ha hl hdb he hpl
theorem call0 (W : Wd X k s p Γ) (j : Nat) {t : Fn} {x : Str} {i : Nat} {p2 pos : Pos} (h : p.fs[j]? = some t := by rfl) (hi : t.i = i := by rfl) (hx : t.x = x := by rfl) (hg : s.G.contains x = true := by decide +kernel) (hl : t.ps.length = 0 := by rfl)
    (hdb : (x == ("__debug__" : Str)) = false := by decide +kernel) : JE X Γ (.Call (.Name x p2) [] [] pos) (.call i []) := by
  subst hi hx
  obtain ⟨f, fd, F, hm, hk, hb, _⟩ := W.fn t (List.mem_of_getElem? h)
  exact je_call0 W.G rfl F W.room (W.gl' hg) hm hk hb hl hdb
theorem calk (W : Wd X k s p Γ) (j q : Nat) {t : Fn} {x : Str} {ks : List Str} {perm : List Nat} {e : Expr} {es : List Expr} {kws : List Keyword} {irs irk : List E} {i : Nat} {p2 pos : Pos} (ha : JA X Γ (e :: es) irs) (hkw : JK X Γ kws irk) (h : p.fs[j]? = some t := by rfl) (hi : t.i = i := by rfl) (hx : t.x = x := by rfl)
    (hq : t.kw[q]? = some (irs.length, ks, perm) := by rfl) (hg : s.G.contains x = true := by decide +kernel) (hl : irk.length = ks.length := by rfl) (hpm : perm.length = t.ps.length := by rfl) (hall : (backToKw pos (keywordEach kws X.env)).all (·.1.isSome) = true := by rfl) (hks : (backToKw pos (keywordEach kws X.env)).filterMap (·.1) = ks := by rfl)
    (hdb : (x == ("__debug__" : Str)) = false := by decide +kernel) (he : starEach (e :: es) X.env = (false, eval e X.env) :: starEach es X.env := by rfl)
    (hpl : ((backTo pos (starEach (e :: es) X.env)).any (·.1) || (backToKw pos (keywordEach kws X.env)).any (·.1.isNone)) = false := by rfl) :
    JE X Γ (.Call (.Name x p2) (e :: es) kws pos) (.calk i (irs ++ irk) perm) := by
  subst hi hx
  obtain ⟨f, fd, F, hm, hk, _, hb⟩ := W.fn t (List.mem_of_getElem? h)
  exact je_calk (n := 0) W.G rfl F W.room (W.gl' hg) hm hk (hb _ (List.mem_of_getElem? hq)) ha hkw hl hpm hall hks hdb he hpl
theorem calk0 (W : Wd X k s p Γ) (j q : Nat) {t : Fn} {x : Str} {ks : List Str} {perm : List Nat} {kws : List Keyword} {irk : List E} {i : Nat} {p2 pos : Pos} (hkw : JK X Γ kws irk) (h : p.fs[j]? = some t := by rfl) (hi : t.i = i := by rfl) (hx : t.x = x := by rfl)
    (hq : t.kw[q]? = some (0, ks, perm) := by rfl) (hg : s.G.contains x = true := by decide +kernel) (hl : irk.length = ks.length := by rfl) (hpm : perm.length = t.ps.length := by rfl) (hall : (backToKw pos (keywordEach kws X.env)).all (·.1.isSome) = true := by rfl) (hks : (backToKw pos (keywordEach kws X.env)).filterMap (·.1) = ks := by rfl)
    (hdb : (x == ("__debug__" : Str)) = false := by decide +kernel) (hpl : ((backTo pos (starEach [] X.env)).any (·.1) || (backToKw pos (keywordEach kws X.env)).any (·.1.isNone)) = false := by rfl) :
    JE X Γ (.Call (.Name x p2) [] kws pos) (.calk i irk perm) := by
  subst hi hx
  obtain ⟨f, fd, F, hm, hk, _, hb⟩ := W.fn t (List.mem_of_getElem? h)
  exact je_calk0 W.G rfl F W.room (W.gl' hg) hm hk (hb _ (List.mem_of_getElem? hq)) hkw hl hpm hall hks hdb hpl
/-! ### builtins -/
/-- a builtin's rule by values -/
structure BiR (X : Cx) (x : Str) (b : BI) : Prop where
  ex : (∃ id, bootBuiltins x = some (.builtin id) ∧ CallR X (.builtin id) (CD (biD b))) ∨ ∃ T, bootBuiltins x = some (.type T) ∧ CallR X (.type T) (CD (biD b))
  bl : x ∈ BLT
  n1 : x ≠ "__name__"
  n2 : (x == ("__debug__" : Str)) = false
theorem bi {b : BI} {x : Str} (W : Wd X k s p Γ) (R : BiR X x b) {e : Expr} {es : List Expr} {irs : List E} {p2 pos : Pos} (ha : JAB X Γ (e :: es) irs) (hg : s.G.contains x = true := by decide +kernel) (he : starEach (e :: es) X.env = (false, eval e X.env) :: starEach es X.env := by rfl) (hpl : (backTo pos (starEach es X.env)).any (·.1) = false := by rfl) :
    JF X Γ (.Call (.Name x p2) (e :: es) [] pos) (.bi b irs) := by
  rcases R.ex with ⟨id, hb, hr⟩ | ⟨T, hb, hr⟩
  · exact jf_bi (es := es) W.G (pe_callB hr (W.gl' hg) (W.blt _ R.bl) hb ha R.n1 R.n2 he hpl) fun _ _ _ h => h
  · exact jf_bi (es := es) W.G (pe_callTy hr (W.gl' hg) (W.blt _ R.bl) hb ha R.n1 R.n2 he hpl) fun _ _ _ h => h
theorem isi (W : Wd X k s p Γ) (t : Ty) {a : Expr} {ia : E} {p1 p2 pos : Pos} (ha : JB X Γ a ia) (hg : s.G.contains "isinstance" = true := by decide +kernel) (hg2 : s.G.contains (tyN t) = true := by decide +kernel) (hb2 : BLT.contains (tyN t) = true := by decide +kernel)
    (h1 : starEach [a, .Name (tyN t) p2] X.env = (false, eval a X.env) :: starEach [.Name (tyN t) p2] X.env := by rfl) : JF X Γ (.Call (.Name "isinstance" p1) [a, .Name (tyN t) p2] [] pos) (.isi t ia) :=
  jf_isi W.G ha (W.gl' hg) (W.blt _ (by decide +kernel)) (W.gl' hg2) (W.blt _ (mem_of hb2)) h1
/-! ### walks -/
theorem seq (W : Wd X k s p Γ) {b : Bool} {tg l : Expr} {ir : E} (h : JRK X b Γ l ir) : JI X b Γ tg l .seq [ir] := ji_seq W.G h
theorem rng1 (W : Wd X k s p Γ) {b : Bool} {tg a : Expr} {ia : E} {p2 pos : Pos} (h : JRKs X b Γ [a] [ia]) (hg : s.G.contains "range" = true := by decide +kernel) (hs : starEach [a] X.env = [(false, eval a X.env)] := by rfl) : JI X b Γ tg (.Call (.Name "range" p2) [a] [] pos) .rng [ia] :=
  ji_rng1 W.G h (W.gl' hg) (W.blt _ (by decide +kernel)) hs
theorem rng2 (W : Wd X k s p Γ) {b : Bool} {tg a c : Expr} {ia ic : E} {p2 pos : Pos} (h : JRKs X b Γ [a, c] [ia, ic]) (hg : s.G.contains "range" = true := by decide +kernel) (hs : starEach [a, c] X.env = [(false, eval a X.env), (false, eval c X.env)] := by rfl) (hs2 : starEach [c] X.env = [(false, eval c X.env)] := by rfl) :
    JI X b Γ tg (.Call (.Name "range" p2) [a, c] [] pos) .rng [ia, ic] := ji_rng2 W.G h (W.gl' hg) (W.blt _ (by decide +kernel)) hs hs2
theorem rng3 (W : Wd X k s p Γ) {b : Bool} {tg a c e : Expr} {ia ic ie : E} {p2 pos : Pos} (h : JRKs X b Γ [a, c, e] [ia, ic, ie]) (hg : s.G.contains "range" = true := by decide +kernel) (hs : starEach [a, c, e] X.env = (false, eval a X.env) :: starEach [c, e] X.env := by rfl) (hs2 : (backTo pos (starEach [c, e] X.env)).any (·.1) = false := by rfl) :
    JI X b Γ tg (.Call (.Name "range" p2) [a, c, e] [] pos) .rng [ia, ic, ie] := ji_rng3 W.G h (W.gl' hg) (W.blt _ (by decide +kernel)) hs hs2
theorem zip (W : Wd X k s p Γ) {b : Bool} {a c : Expr} {ia ic : E} {p2 pos tpos : Pos} {elts : List Expr} {kk : Nat} (h : JRKs X b Γ [a, c] [ia, ic]) (hg : s.G.contains "zip" = true := by decide +kernel) (hs : starEach [a, c] X.env = (false, eval a X.env) :: starEach [c] X.env := by rfl)
    (hpl : (backTo pos (starEach [c] X.env)).any (·.1) = false := by rfl) : JI X b Γ (.Tuple elts kk tpos) (.Call (.Name "zip" p2) [a, c] [] pos) .zip [ia, ic] := ji_zip W.G h (W.gl' hg) (W.blt _ (by decide +kernel)) hs hpl
theorem rev (W : Wd X k s p Γ) {b : Bool} {tg a : Expr} {ia : E} {p2 pos : Pos} (h : JRK X b Γ a ia) (hg : s.G.contains "reversed" = true := by decide +kernel) (hs : starEach [a] X.env = (false, eval a X.env) :: starEach [] X.env := by rfl) : JI X b Γ tg (.Call (.Name "reversed" p2) [a] [] pos) .rev [ia] :=
  ji_rev W.G h (W.gl' hg) (W.blt _ (by decide +kernel)) hs
/-! ### targets -/
theorem tn (W : Wd X k s p Γ) {x : Str} {i : Nat} {pos : Pos} (hi : s.N[i]? = some x := by rfl) (h : s.L.contains i = true := by rfl) : JG X (.Name x pos) (.nm i) := jg_nm W.M hi (W.loc hi (.inl h)).1 (W.loc hi (.inl h)).2
theorem tc (W : Wd X k s p Γ) {x : Str} {i : Nat} {pos : Pos} (hi : s.N[i]? = some x := by rfl) (h : s.C.contains i = true := by rfl) : JG X (.Name x pos) (.nm i) := jg_nm W.M hi (W.loc hi (.inr h)).1 (W.loc hi (.inr h)).2
theorem t0 (W : Wd X k s p Γ) : JGs X [] [] := jgs_nil
theorem t1 (W : Wd X k s p Γ) {e : Expr} {es : List Expr} {t : Tg} {ts : List Tg} (h1 : JG X e t) (h2 : JGs X es ts) (hs : (assignEach (e :: es) X.env).map (·.2) = assign e X.env :: (assignEach es X.env).map (·.2) := by rfl) : JGs X (e :: es) (t :: ts) := jgs_cons h1 h2 hs
theorem tt (W : Wd X k s p Γ) {es : List Expr} {j : Nat} {pos : Pos} {ts : List Tg} (h : JGs X es ts) (hn : (assignEach es X.env).length = ts.length := by rfl) (hst : (assignEach es X.env).findIdx? (·.1) = none := by rfl) : JG X (.Tuple es j pos) (.tp ts) := jg_tp W.calm h hn hst
/-! ### statements -/
theorem e0 (W : Wd X k s p Γ) : JSs X Γ [] [] := jss_nil
theorem e1 (W : Wd X k s p Γ) {st : Stmt} {rest : List Stmt} {t : S} {ss : List S} (h1 : JS X Γ st t) (h2 : JSs X Γ rest ss) : JSs X Γ (st :: rest) (t :: ss) := jss_cons W.G h1 h2
theorem ef (W : Wd X k s p Γ) {st : List Stmt} {ss : List S} {is : List Nat} (h : JSs X Γ st ss) : JSs X Γ st (.frz is :: ss) := jss_frz W.G h
theorem ret (W : Wd X k s p Γ) {e : Expr} {ir : E} {pos : Pos} (h : JE X Γ e ir) : JS X Γ (.Return (some e) pos) (.ret ir) := js_ret W.G h
theorem ex (W : Wd X k s p Γ) {e : Expr} {ir : E} {pos : Pos} (h : JE X Γ e ir) (hs : swapsWith e none pos.line X.env = pure false := by rfl) : JS X Γ (.Expr e pos) (.ex ir) := js_ex W.G h hs
theorem iff (W : Wd X k s p Γ) {c : Expr} {ic : E} {a b : List Stmt} {sa sb : List S} {pos : Pos} (hc : JT X Γ c ic) (ha : JSs X Γ a sa) (hb : JSs X Γ b sb) : JS X Γ (.If c a b pos) (.ite ic sa sb) := js_ite W.G hc ha hb
theorem asg (W : Wd X k s p Γ) {x : Str} {e : Expr} {i : Nat} {ir : E} {pos p2 : Pos} (he : JE X Γ e ir) (hi : s.N[i]? = some x := by rfl) (hl : s.L.contains i = true := by rfl) (hs : swapsWith e (some (.Name x p2)) pos.line X.env = pure false := by rfl) : JS X Γ (.Assign [.Name x p2] e pos) (.asg i ir) :=
  js_asg W.G W.M hi (W.loc hi (.inl hl)).1 (W.loc hi (.inl hl)).2 he hs
theorem asgC (W : Wd X k s p Γ) {x : Str} {e : Expr} {i : Nat} {ir : E} {pos p2 : Pos} (he : JE X Γ e ir) (hi : s.N[i]? = some x := by rfl) (hl : s.C.contains i = true := by rfl) (hs : swapsWith e (some (.Name x p2)) pos.line X.env = pure false := by rfl) : JS X Γ (.Assign [.Name x p2] e pos) (.asg i ir) :=
  js_asg W.G W.M hi (W.loc hi (.inr hl)).1 (W.loc hi (.inr hl)).2 he hs
theorem asgO (W : Wd X k s p Γ) {x : Str} {e : Expr} {i : Nat} {ir : E} {pos p2 : Pos} (he : JF X Γ e ir) (hi : s.N[i]? = some x := by rfl) (hl : s.L.contains i = true := by rfl) (hs : swapsWith e (some (.Name x p2)) pos.line X.env = pure false := by rfl) : JS X Γ (.Assign [.Name x p2] e pos) (.asgO i ir) :=
  js_asgO W.G W.M hi (W.loc hi (.inl hl)).1 (W.loc hi (.inl hl)).2 he hs
theorem asgOC (W : Wd X k s p Γ) {x : Str} {e : Expr} {i : Nat} {ir : E} {pos p2 : Pos} (he : JF X Γ e ir) (hi : s.N[i]? = some x := by rfl) (hl : s.C.contains i = true := by rfl) (hs : swapsWith e (some (.Name x p2)) pos.line X.env = pure false := by rfl) : JS X Γ (.Assign [.Name x p2] e pos) (.asgO i ir) :=
  js_asgO W.G W.M hi (W.loc hi (.inr hl)).1 (W.loc hi (.inr hl)).2 he hs
theorem unp (W : Wd X k s p Γ) {tg e : Expr} {t : Tg} {ir : E} {pos : Pos} (he : JE X Γ e ir) (hg : JG X tg t) (hs : swapsWithSole [tg] e pos.line X.env = pure false := by rfl) (hw : swappedStores [tg] e X.env = pure none := by rfl)
    (h1 : (assignEach [tg] X.env).map (·.2) = [assign tg X.env] := by rfl) : JS X Γ (.Assign [tg] e pos) (.unp t ir) := js_unp W.G he hg hs hw h1
theorem app (W : Wd X k s p Γ) {x : Str} {e : Expr} {i : Nat} {ir : E} {pn pa pc pos : Pos} (he : JE X Γ e ir) (hi : s.N[i]? = some x := by rfl) (hv : s.V.contains i = true := by rfl) (hs : starEach [e] X.env = (false, eval e X.env) :: starEach [] X.env := by rfl)
    (hbase : attributeBase (.Name x pn) "append" X.env (eval (.Name x pn) X.env) = eval (.Name x pn) X.env := by rfl)
    (hfew : ((backTo pc (starEach [e] X.env)).all (fun x => !x.1) && (backToKw pc (keywordEach [] X.env)).all (fun x => x.1.isSome)
      && decide ([e].length + ([] : List Keyword).length + (if ([] : List Keyword).isEmpty then 0 else 1) < 30)) = true := by rfl)
    (hline : (pa.endLine == pc.line) = true := by rfl) (hplain : (backTo pc (starEach [] X.env)).any (·.1) = false := by rfl) (hsw : swapsWith (.Call (.Attribute (.Name x pn) "append" pa) [e] [] pc) none pos.line X.env = pure false := by rfl) :
    JS X Γ (.Expr (.Call (.Attribute (.Name x pn) "append" pa) [e] [] pc) pos) (.app i ir) := js_app W.G W.M (W.v i (mem_of hv) x hi) he hs hbase hfew hline hplain hsw
theorem ext (W : Wd X k s p Γ) {x : Str} {e : Expr} {i : Nat} {ir : E} {pn pa pc pos : Pos} (he : JB X Γ e ir) (hi : s.N[i]? = some x := by rfl) (hv : s.V.contains i = true := by rfl) (hs : starEach [e] X.env = (false, eval e X.env) :: starEach [] X.env := by rfl)
    (hbase : attributeBase (.Name x pn) "extend" X.env (eval (.Name x pn) X.env) = eval (.Name x pn) X.env := by rfl)
    (hfew : ((backTo pc (starEach [e] X.env)).all (fun x => !x.1) && (backToKw pc (keywordEach [] X.env)).all (fun x => x.1.isSome)
      && decide ([e].length + ([] : List Keyword).length + (if ([] : List Keyword).isEmpty then 0 else 1) < 30)) = true := by rfl)
    (hline : (pa.endLine == pc.line) = true := by rfl) (hplain : (backTo pc (starEach [] X.env)).any (·.1) = false := by rfl) (hsw : swapsWith (.Call (.Attribute (.Name x pn) "extend" pa) [e] [] pc) none pos.line X.env = pure false := by rfl) :
    JS X Γ (.Expr (.Call (.Attribute (.Name x pn) "extend" pa) [e] [] pc) pos) (.ext i ir) := js_ext W.G W.M (W.v i (mem_of hv) x hi) he hs hbase hfew hline hplain hsw
theorem seti (W : Wd X k s p Γ) {x : Str} {e kk : Expr} {i : Nat} {ik ir : E} {pn pt pos : Pos} (hk : JB X Γ kk ik) (he : JE X Γ e ir) (hi : s.N[i]? = some x := by rfl) (hv : s.V.contains i = true := by rfl)
    (ha : ∀ v, assign (.Subscript (.Name x pn) kk pt) X.env v = (do
      let ov ← holding [v] (eval (.Name x pn) X.env)
      let iv ← holding [v, ov] (eval kk X.env)
      standAt pt
      holding [v, ov, iv] (setItem ov iv v)
      release [v, ov, iv] []) := by intro _; rfl)
    (hs : swapsWithSole [.Subscript (.Name x pn) kk pt] e pos.line X.env = pure false := by rfl) (hw : swappedStores [.Subscript (.Name x pn) kk pt] e X.env = pure none := by rfl)
    (h1 : (assignEach [.Subscript (.Name x pn) kk pt] X.env).map (·.2) = [assign (.Subscript (.Name x pn) kk pt) X.env] := by rfl) : JS X Γ (.Assign [.Subscript (.Name x pn) kk pt] e pos) (.seti i ik ir) := js_seti W.G W.M (W.v i (mem_of hv) x hi) hk he ha hs hw h1
theorem fr (W : Wd X k s p Γ) {tg iter : Expr} {body : List Stmt} {t : Tg} {q : IK} {es : List E} {b : List S} {pos : Pos} (hi : JI X false Γ tg iter q es) (hg : JG X tg t) (hb : JSs X Γ body b) (hs : ∀ x, foldedSetIterable iter X.env x = pure x := by intro _; rfl) : JS X Γ (.For tg iter body [] pos) (.fr t q es b) :=
  js_fr W.G W.pass W.calm hi hg hb hs
theorem whl (W : Wd X k s p Γ) {c : Expr} {body : List Stmt} {ic : E} {b : List S} {pos : Pos} (hc : JT X Γ c ic) (hb : JSs X Γ body b) : JS X Γ (.While c body [] pos) (.whl ic b) := js_whl W.G W.pass hc hb
theorem brk (W : Wd X k s p Γ) {pos : Pos} : JS X Γ (.Break pos) .brk := js_brk
theorem cnt (W : Wd X k s p Γ) {pos : Pos} : JS X Γ (.Continue pos) .cnt := js_cnt
theorem pas (W : Wd X k s p Γ) {pos : Pos} : JS X Γ (.Pass pos) .pas := js_pas
theorem nvr (W : Wd X k s p Γ) {st : Stmt} : JS X Γ st .nvr := js_nvr
end Wd
end
end TL


set_option autoImplicit false
/-! The tree layer, part 13: several names at once, comprehensions, in short; the builtins' table. -/
namespace TL
open PySem PySem.Spec PyProof.Rows L2
theorem block_fn {env : Env} (hk : env.scope.kind = .function) : env.blockKind = .function := by unfold Env.blockKind; rw [hk]; rfl
/-- the value's shape asks for stores from the right -/
def swV (vs : List Expr) : Bool := !(vs.any fun | .Starred .. => true | _ => false) && !(vs.all (foldedForSure 8)) && !(vs.all (constantsAlone 8))
theorem str_ne {p q : Str} (h : (p == q) = false) : (q == p) = false := by
  cases e : q == p with
  | false => rfl
  | true =>
    have := eq_of_beq e
    subst this
    simp at h
/-- the test's steps, once its names are known -/
theorem sw_go {env : Env} {ts vs : List Expr} {pt pt2 : Pos} {kt k2 : Nat} {names : List Str} (hk : env.scope.kind = .function) (h0 : (!(ts.length == 2 || ts.length == 3) || vs.length != ts.length) = false) (hv : swV vs = true)
    (hn : (ts.filterMap fun e => match e with
      | .Name id pos => if env.kindOf id == some .local && pos.line == (ts.head?.map (·.pos.line)).getD 0 then some id else none
      | _ => none) = names) (hl : (names.length != ts.length || names.eraseDups.length != names.length) = false) :
    swappedStores [.Tuple ts kt pt] (.Tuple vs k2 pt2) env = pure (some names) := by
  unfold swV at hv
  simp only [Bool.and_eq_true, Bool.not_eq_true'] at hv
  obtain ⟨⟨h1, h2⟩, h3⟩ := hv
  subst hn
  have hb := block_fn hk
  have c1 : ¬ ((!(ts.length == 2 || ts.length == 3) || vs.length != ts.length || env.blockKind != .function) = true) := by
    rw [h0, hb]
    decide
  have c2 : ¬ ((vs.any fun | .Starred .. => true | _ => false) = true) := by
    rw [Bool.not_eq_true]
    exact h1
  have c4 : ¬ ((vs.all (foldedForSure 8)) = true) := by rw [h2]; decide
  have c5 : ¬ ((vs.all (constantsAlone 8)) = true) := by rw [h3]; decide
  unfold swappedStores
  refine (if_neg c1).trans ((if_neg c2).trans ?_)
  refine (if_neg ?_).trans ((if_neg c4).trans ?_)
  · intro h
    have h : _ = true := h
    exact Bool.noConfusion (hl.symm.trans h)
  · show (if (vs.all (constantsAlone 8)) = true then _ else _) = _
    rw [if_neg c5]
    rfl
theorem sw2 {env : Env} {x y : Str} {a b : Expr} {px py pt pt2 : Pos} {kt k2 : Nat} (hk : env.scope.kind = .function) (hx : env.scope.names.lookup x = some .local) (hy : env.scope.names.lookup y = some .local) (hxy : (x == y) = false) (hl : (py.line == px.line) = true) (hv : swV [a, b] = true) :
    swappedStores [.Tuple [.Name x px, .Name y py] kt pt] (.Tuple [a, b] k2 pt2) env = pure (some [x, y]) := by
  have kx : env.kindOf x = some .local := hx
  have ky : env.kindOf y = some .local := hy
  have hl' : py.line = px.line := by simpa using hl
  have hd : [x, y].eraseDups = [x, y] := by simp [List.eraseDups_cons, str_ne hxy]
  refine sw_go hk rfl hv ?_ (by rw [hd]; rfl)
  simp [kx, ky, Expr.pos, hl']
theorem sw3 {env : Env} {x y u : Str} {a b c : Expr} {px py pu pt pt2 : Pos} {kt k2 : Nat} (hk : env.scope.kind = .function) (hx : env.scope.names.lookup x = some .local) (hy : env.scope.names.lookup y = some .local) (hu : env.scope.names.lookup u = some .local) (hxy : (x == y) = false) (hxu : (x == u) = false) (hyu : (y == u) = false)
    (hl : (py.line == px.line) = true) (hl2 : (pu.line == px.line) = true) (hv : swV [a, b, c] = true) :
    swappedStores [.Tuple [.Name x px, .Name y py, .Name u pu] kt pt] (.Tuple [a, b, c] k2 pt2) env = pure (some [x, y, u]) := by
  have kx : env.kindOf x = some .local := hx
  have ky : env.kindOf y = some .local := hy
  have ku : env.kindOf u = some .local := hu
  have hl' : py.line = px.line := by simpa using hl
  have hl2' : pu.line = px.line := by simpa using hl2
  have hd : [x, y, u].eraseDups = [x, y, u] := by simp [List.eraseDups_cons, str_ne hxy, str_ne hxu, str_ne hyu]
  refine sw_go hk rfl hv ?_ (by rw [hd]; rfl)
  simp [kx, ky, ku, Expr.pos, hl', hl2']
section
variable {X : Cx} {k : Nat} {s : Sg} {p : Pg} {Γ : Gm}
theorem name_ne {N : List Str} {i j : Nat} {x y : Str} (nd : N.Nodup) (hi : N[i]? = some x) (hj : N[j]? = some y) (hij : (i == j) = false) : (x == y) = false := by
  cases e : x == y with
  | false => rfl
  | true =>
    have := eq_of_beq e
    subst this
    obtain ⟨h1, e1⟩ := List.getElem?_eq_some_iff.mp hi
    obtain ⟨h2, e2⟩ := List.getElem?_eq_some_iff.mp hj
    have := (List.getElem_inj nd).mp (e1.trans e2.symm)
    subst this
    simp at hij
namespace Wd
theorem par2 (W : Wd X k s p Γ) {i j : Nat} {oi oj : Bool} {x y : Str} {a b : Expr} {ia ib : E} {px py pt pos : Pos} {kt k2 : Nat} {pt2 : Pos} (ha : JAF X Γ [a, b] [ia, ib] [oi, oj]) (hi : s.N[i]? = some x := by rfl) (hj : s.N[j]? = some y := by rfl) (li : s.L.contains i = true := by rfl) (lj : s.L.contains j = true := by rfl) (hij : (i == j) = false := by rfl)
    (hl : (py.line == px.line) = true := by rfl) (hv : swV [a, b] = true := by rfl) (hs : swapsWithSole [.Tuple [.Name x px, .Name y py] kt pt] (.Tuple [a, b] k2 pt2) pos.line X.env = pure false := by rfl) :
    JS X Γ (.Assign [.Tuple [.Name x px, .Name y py] kt pt] (.Tuple [a, b] k2 pt2) pos) (.par [(i, oi), (j, oj)] [ia, ib]) := by
  have lx := W.l i (mem_of li) x hi
  have ly := W.l j (mem_of lj) y hj
  exact js_par2 W.G W.calm W.M hi hj (by simpa using hij) lx ly ha (sw2 (by rw [W.M.eS]; exact W.kd) (by rw [W.M.eS]; exact lx) (by rw [W.M.eS]; exact ly) (name_ne W.M.nd hi hj hij) hl hv) hs
theorem par3 (W : Wd X k s p Γ) {i j l : Nat} {oi oj ol : Bool} {x y u : Str} {a b c : Expr} {ia ib ic : E} {px py pu pt pos : Pos} {kt k2 : Nat} {pt2 : Pos} (ha : JAF X Γ [a, b, c] [ia, ib, ic] [oi, oj, ol]) (hi : s.N[i]? = some x := by rfl) (hj : s.N[j]? = some y := by rfl) (hu : s.N[l]? = some u := by rfl)
    (li : s.L.contains i = true := by rfl) (lj : s.L.contains j = true := by rfl) (ll : s.L.contains l = true := by rfl) (hij : (i == j) = false := by rfl) (hil : (i == l) = false := by rfl) (hjl : (j == l) = false := by rfl)
    (hl : (py.line == px.line) = true := by rfl) (hl2 : (pu.line == px.line) = true := by rfl) (hv : swV [a, b, c] = true := by rfl) (hs : swapsWithSole [.Tuple [.Name x px, .Name y py, .Name u pu] kt pt] (.Tuple [a, b, c] k2 pt2) pos.line X.env = pure false := by rfl) :
    JS X Γ (.Assign [.Tuple [.Name x px, .Name y py, .Name u pu] kt pt] (.Tuple [a, b, c] k2 pt2) pos) (.par [(i, oi), (j, oj), (l, ol)] [ia, ib, ic]) := by
  have lx := W.l i (mem_of li) x hi
  have ly := W.l j (mem_of lj) y hj
  have lu := W.l l (mem_of ll) u hu
  exact js_par3 W.G W.calm W.M hi hj hu (by simpa using hij) (by simpa using hil) (by simpa using hjl) lx ly lu ha (sw3 (by rw [W.M.eS]; exact W.kd) (by rw [W.M.eS]; exact lx) (by rw [W.M.eS]; exact ly) (by rw [W.M.eS]; exact lu)
    (name_ne W.M.nd hi hj hij) (name_ne W.M.nd hi hu hil) (name_ne W.M.nd hj hu hjl) hl hl2 hv) hs
/-- names of a display, stored from the left -/
theorem n0 (W : Wd X k s p Γ) : PGs X [] fun vs σ H Q => vs.length = ([] : List Nat).length ∧ Q (setVs σ [] vs) H := PGs.imp pgs_nil fun vs σ H Q ⟨e, q⟩ => by
  cases vs with
  | nil => exact ⟨rfl, q⟩
  | cons v vs => cases e
theorem n1 (W : Wd X k s p Γ) {x : Str} {pos : Pos} {i : Nat} {es : List Expr} {is : List Nat} (h : PGs X es fun vs σ H Q => vs.length = is.length ∧ Q (setVs σ is vs) H) (hi : s.N[i]? = some x := by rfl) (hl : s.L.contains i = true := by rfl)
    (hs : (assignEach (.Name x pos :: es) X.env).map (·.2) = assign (.Name x pos) X.env :: (assignEach es X.env).map (·.2) := by rfl) : PGs X (.Name x pos :: es) fun vs σ H Q => vs.length = (i :: is).length ∧ Q (setVs σ (i :: is) vs) H :=
  PGs.imp (pgs_cons (pg_name (i := i) (by rw [W.M.eN]; exact W.M.nd) (by rw [W.M.eN]; exact hi) (by rw [W.M.eS]; exact .inl (W.l i (mem_of hl) x hi)) (by rw [W.M.eS]; exact .inr (W.l i (mem_of hl) x hi))) h hs) fun vs σ H Q ⟨e, q⟩ => by
    cases vs with
    | nil => cases e
    | cons v vs => exact ⟨v, vs, rfl, by simpa using e, q⟩
theorem n1c (W : Wd X k s p Γ) {x : Str} {pos : Pos} {i : Nat} {es : List Expr} {is : List Nat} (h : PGs X es fun vs σ H Q => vs.length = is.length ∧ Q (setVs σ is vs) H) (hi : s.N[i]? = some x := by rfl) (hl : s.C.contains i = true := by rfl)
    (hs : (assignEach (.Name x pos :: es) X.env).map (·.2) = assign (.Name x pos) X.env :: (assignEach es X.env).map (·.2) := by rfl) : PGs X (.Name x pos :: es) fun vs σ H Q => vs.length = (i :: is).length ∧ Q (setVs σ (i :: is) vs) H :=
  PGs.imp (pgs_cons (pg_name (i := i) (by rw [W.M.eN]; exact W.M.nd) (by rw [W.M.eN]; exact hi) (by rw [W.M.eS]; exact .inr (W.c i (mem_of hl) x hi).1) (.inl (W.c i (mem_of hl) x hi).2)) h hs) fun vs σ H Q ⟨e, q⟩ => by
    cases vs with
    | nil => cases e
    | cons v vs => exact ⟨v, vs, rfl, by simpa using e, q⟩
/-- ts: the slots with their marks; the names' rule speaks of is -/
theorem parN (W : Wd X k s p Γ) {tg es : List Expr} (ts : List (Nat × Bool)) {is : List Nat} {os : List Bool} {irs : List E} {pt pos : Pos} {kt k2 : Nat} {pt2 : Pos} (ht : PGs X tg fun vs σ H Q => vs.length = is.length ∧ Q (setVs σ is vs) H) (ha : JAF X Γ es irs os) (hi : ts.map (·.1) = is := by rfl) (ho : ts.map (·.2) = os := by rfl)
    (hn : (assignEach tg X.env).length = ts.length := by rfl) (hst : (assignEach tg X.env).findIdx? (·.1) = none := by rfl) (hl : decide (ts.length ≤ 1000) = true := by rfl)
    (hs : swapsWithSole [.Tuple tg kt pt] (.Tuple es k2 pt2) pos.line X.env = pure false := by rfl) (hw : swappedStores [.Tuple tg kt pt] (.Tuple es k2 pt2) X.env = pure none := by rfl)
    (h1 : (assignEach [.Tuple tg kt pt] X.env).map (·.2) = [assign (.Tuple tg kt pt) X.env] := by rfl) : JS X Γ (.Assign [.Tuple tg kt pt] (.Tuple es k2 pt2) pos) (.par ts irs) := by
  subst hi ho
  exact js_parN (N := s.N) (sc := s.sc) W.G W.calm ht ha hn hst (of_decide_eq_true hl) hs hw h1
/-! ### comprehensions -/
/-- what a block needs; b: what holds in every such block -/
structure Blk (X : Cx) (k : Nat) (s s' : Sg) (p : Pg) (Γ : Gm) (scope : Scope) (own : List (Str × Nat)) (tg : Expr) (t : Tg) (ifs : List Expr) (ic : E) (elt : Expr) (iel : E) : Prop where
  sg : SgOk s'
  hN : s'.N = s.N
  hs : s'.sc = relS scope s.sc
  hc : (s'.C.all fun i => match s'.N[i]? with | some x => scope.names.lookup x == some .cell | none => true) = true
  ok : blkC s.N s.sc scope own = true
  ow : ((tgVars t).all fun i => (own.map (·.2)).contains i) = true
  b : ∀ Y : Cx, Wd Y k s' p Γ → JG Y tg t ∧ PTs Y ifs (trT Γ ic) ∧ JE Y Γ elt iel
theorem c0 (W : Wd X k s p Γ) : PTs X [] (trT Γ (.bl true)) := ⟨fun pins σ s H Q I ⟨F, z, σa, B, sr, q⟩ => pts_nil.run pins σ s H Q I (by
  unfold wpE at q
  exact q z H XE.refl sr.w.bag)⟩
theorem c1 (W : Wd X k s p Γ) {c : Expr} {ic : E} (h : JT X Γ c ic) : PTs X [c] (trT Γ ic) := pts_one h
theorem lc (W : Wd X k s p Γ) {s' : Sg} {scope : Scope} {elt tg iter : Expr} {ifs : List Expr} {own : List (Str × Nat)} {q : IK} {es : List E} {t : Tg} {ic iel : E} {pos : Pos} (Bk : Blk X k s s' p Γ scope own tg t ifs ic elt iel) (hi : JI X true Γ tg iter q es)
    (hs : ∀ x, foldedSetIterable iter X.env x = pure x := by intro _; rfl) : JF X Γ (.ListComp elt [⟨tg, iter, ifs, 0⟩] scope pos) (.lc q es t (own.map (·.2)) ic iel) :=
  have go := fun S H C cl fp => Bk.b _ (W.blk Bk.sg Bk.hN Bk.hs Bk.hc S H C cl fp)
  jf_lc W.G W.calm W.M hi (by rw [W.M.eN, W.M.eS]; exact blkOk_by Bk.ok) (fun S H C cl fp => (go S H C cl fp).1) (fun S H C cl fp => (go S H C cl fp).2.1) (fun S H C cl fp => (go S H C cl fp).2.2) hs fun i h => mem_of (List.all_eq_true.mp Bk.ow i h)
/-- name = [..] on one line, the name a local -/
theorem asgL (W : Wd X k s p Γ) (o : Bool) {s' : Sg} {scope : Scope} {y : Str} {i : Nat} {elt tg iter : Expr} {ifs : List Expr} {own : List (Str × Nat)} {q : IK} {es : List E} {t : Tg} {ic iel : E} {py pos spos : Pos} (Bk : Blk X k s s' p Γ scope own tg t ifs ic elt iel) (hi : JI X true Γ tg iter q es)
    (hy : s.N[i]? = some y := by rfl) (hl : s.L.contains i = true := by rfl) (hln : (py.line == pos.line) = true := by rfl) (ha : (scope.names.any fun (n, k) => n == y && (k == .local || k == .cell)) = false := by decide +kernel)
    (hs : ∀ x, foldedSetIterable iter X.env x = pure x := by intro _; rfl) : JS X Γ (.Assign [.Name y py] (.ListComp elt [⟨tg, iter, ifs, 0⟩] scope pos) spos) (asgS o i (.lc q es t (own.map (·.2)) ic iel)) :=
  have go := fun S H C cl fp => Bk.b _ (W.blk Bk.sg Bk.hN Bk.hs Bk.hc S H C cl fp)
  have ly := W.l i (mem_of hl) y hy
  js_asgLc o W.G W.calm W.M hy ly (sw_true (by rw [W.M.eS]; exact W.kd) (by rw [W.M.eS]; exact ly) hln ha) hi (by rw [W.M.eN, W.M.eS]; exact blkOk_by Bk.ok) (fun S H C cl fp => (go S H C cl fp).1) (fun S H C cl fp => (go S H C cl fp).2.1) (fun S H C cl fp => (go S H C cl fp).2.2) hs fun i h => mem_of (List.all_eq_true.mp Bk.ow i h)
end Wd
/-! ### sorted(set(..)) of tuples of ints -/
theorem reps_tups {z : Addr → Prop} {a0 : Addr} {H : Hp} : ∀ {ps : List (List Int)} {vs : List V}, Reps z a0 H (ps.map fun p => D.tup (p.map D.int)) vs → ∃ ks : List (Addr × List Int), vs = ks.map (fun p => V.ref p.1) ∧ ks.map (·.2) = ps ∧ ∀ p ∈ ks, H p.1 = some (.tup (p.2.map V.int))
  | [], vs, h => ⟨[], Reps.of_nil h, rfl, fun _ h => nomatch h⟩
  | p :: ps, vs, h => by
    obtain ⟨v, r, rfl, h1, h2⟩ := Reps.uncons h
    obtain ⟨a, us, rfl, e, q⟩ := h1.tup
    obtain ⟨ks, rfl, e2, e3⟩ := reps_tups h2
    have eu := Reps.of_ints q
    subst eu
    refine ⟨(a, p) :: ks, rfl, by rw [List.map_cons, e2], fun x hx => ?_⟩
    rcases List.mem_cons.mp hx with rfl | hx
    · exact e
    · exact e3 x hx
theorem tups_reps {z : Addr → Prop} {a0 : Addr} {H : Hp} : ∀ {ks : List (Addr × List Int)}, (∀ p ∈ ks, H p.1 = some (.tup (p.2.map V.int))) → Reps z a0 H (ks.map fun p => D.tup (p.2.map D.int)) (ks.map fun p => V.ref p.1)
  | [], _ => Reps.nil
  | p :: ks, h => Reps.cons (rep_tup (h p (List.mem_cons_self ..)) (Reps.ints _)) (tups_reps fun q hq => h q (List.mem_cons_of_mem _ hq))
theorem jf_sset {a : Expr} {ia : E} {p1 p2 q1 pos : Pos} (hc : X.calm = true) (hu : X.A.units + 65 < cLine) (G : GMono Γ) (ha : JB X Γ a ia) (hg : Gl X "sorted") (hm : X.mg "sorted" = none) (hg2 : Gl X "set") (hm2 : X.mg "set" = none)
    (h1 : starEach [a] X.env = (false, eval a X.env) :: starEach [] X.env) (h2 : starEach [.Call (.Name "set" p2) [a] [] q1] X.env = (false, eval (.Call (.Name "set" p2) [a] [] q1) X.env) :: starEach [] X.env)
    (e1 : (backTo q1 (starEach [] X.env)).any (·.1) = false) (e2 : (backTo pos (starEach [] X.env)).any (·.1) = false) : JF X Γ (.Call (.Name "sorted" p1) [.Call (.Name "set" p2) [a] [] q1] [] pos) (.bi .sset [ia]) := by
  refine PE.imp (pe_callB (cr_sortedT hc) hg hm (by decide +kernel) (pa_cons (pe_callTy (cr_setOfT hc (by omega)) hg2 hm2 (by decide +kernel) (pa_cons ha pa_nil h1) (by decide +kernel) (by decide +kernel) h1 e1) pa_nil h2) (by decide +kernel) (by decide +kernel) h2 e2) fun σ H Q ⟨F, z, σa, B, sr, q⟩ => ?_
  unfold wpE wpEs wpEs at q
  refine ⟨F, z, σa, B, sr, wpE_mono G _ _ _ _ _ (fun d B1 k z1 H1 v x1 b1 r1 => ?_) q⟩
  have k : ∃ (ps : List (List Int)) (n : Nat) (M : Int), d = .lst (ps.map fun p => D.tup (p.map D.int)) ∧ ps.length < 64 ∧ 1 ≤ n ∧ (∀ p ∈ ps, p.length = n ∧ TS.Bd M p) ∧
      ∀ qs : List (List Int), qs.Nodup → (∀ q, q ∈ qs ↔ q ∈ ps) → qs.Pairwise (fun q r => TS.code M q ≤ TS.code M r) → _ := k
  obtain ⟨ps, n, M, rfl, l, n1, hb, k⟩ := k
  obtain ⟨l0, vs, rfl, nb, eh, rv⟩ := r1
  obtain ⟨ks, rfl, rfl, hk⟩ := reps_tups rv
  have w1 := x1.wok sr.w b1
  rw [List.length_map] at l
  refine ⟨l0, ks, rfl, SqL.of eh, fun p hp => SqT.of (hk p hp), l, fun a1 L na hL hL2 => ?_⟩
  have hL' : ∀ p ∈ L, H1 p.1 = some (.tup (p.2.map V.int)) := fun p hp => hk p (hL p hp)
  have x2 : XE F.a0 F.a1 z1 H1 z1 (upd H1 a1 (SetTO X.prog X.w a1 L)) := XE.new na
  refine ⟨a1, L, n, M, rfl, upd_same, fun p hp => SqT.of (by rw [upd_ne (ne_of_none (hL' p hp) na)]; exact hL' p hp), n1, fun p hp => hb p.2 (List.mem_map.mpr ⟨p, hL p hp, rfl⟩), fun L' p pm nd _ pw np => ?_⟩
  have x3 : XE F.a0 F.a1 z1 (upd H1 a1 (SetTO X.prog X.w a1 L)) z1 (upd (upd H1 a1 (SetTO X.prog X.w a1 L)) p (.lst (L'.map fun q => V.ref q.1))) := XE.new np
  have b2 := b1.new (o := SetTO X.prog X.w a1 L) na
  have b3 := b2.new (o := HO.lst (L'.map fun q => V.ref q.1)) np
  have np1 : H1 p = none := x2.dm p np
  refine k (L'.map (·.2)) nd (fun q => ⟨fun h => ?_, fun h => ?_⟩) (List.pairwise_map.mpr pw) z1 _ _ (x1.trans (x2.trans x3)) b3 ?_
  · obtain ⟨x, hx, rfl⟩ := List.mem_map.mp h
    exact List.mem_map.mpr ⟨x, hL x (pm.mem_iff.mp hx), rfl⟩
  · obtain ⟨x, hx, rfl⟩ := List.mem_map.mp h
    obtain ⟨y, hy, e⟩ := List.mem_map.mp (hL2 x hx)
    exact List.mem_map.mpr ⟨y, pm.mem_iff.mpr hy, e⟩
  · refine ⟨p, _, rfl, x1.dm p np1, w1.fresh np1, upd_same, ?_⟩
    rw [List.map_map]
    refine tups_reps fun q hq => ?_
    have e := hL' q (pm.mem_iff.mp hq)
    rw [upd_ne (ne_of_none (by rw [upd_ne (ne_of_none e na)]; exact e) np), upd_ne (ne_of_none e na)]
    exact e
theorem Wd.sset (W : Wd X k s p Γ) {a : Expr} {ia : E} {p1 p2 q1 pos : Pos} (ha : JB X Γ a ia) (hg : s.G.contains "sorted" = true := by decide +kernel) (hg2 : s.G.contains "set" = true := by decide +kernel)
    (h1 : starEach [a] X.env = (false, eval a X.env) :: starEach [] X.env := by rfl) (h2 : starEach [.Call (.Name "set" p2) [a] [] q1] X.env = (false, eval (.Call (.Name "set" p2) [a] [] q1) X.env) :: starEach [] X.env := by rfl)
    (e1 : (backTo q1 (starEach [] X.env)).any (·.1) = false := by rfl) (e2 : (backTo pos (starEach [] X.env)).any (·.1) = false := by rfl) : JF X Γ (.Call (.Name "sorted" p1) [.Call (.Name "set" p2) [a] [] q1] [] pos) (.bi .sset [ia]) :=
  jf_sset W.calm W.hu W.G ha (W.gl' hg) (W.blt _ (by decide +kernel)) (W.gl' hg2) (W.blt _ (by decide +kernel)) h1 h2 e1 e2
/-! ### the builtins -/
theorem bLen : Wd.BiR X "len" .len := ⟨.inl ⟨"len", by decide +kernel, cr_len⟩, by decide +kernel, by decide +kernel, by decide +kernel⟩
theorem bAbs : Wd.BiR X "abs" .abs := ⟨.inl ⟨"abs", by decide +kernel, cr_abs⟩, by decide +kernel, by decide +kernel, by decide +kernel⟩
theorem bInt : Wd.BiR X "int" .int := ⟨.inr ⟨"int", by decide +kernel, cr_int⟩, by decide +kernel, by decide +kernel, by decide +kernel⟩
theorem bTuple : Wd.BiR X "tuple" .tuple := ⟨.inr ⟨"tuple", by decide +kernel, cr_tuple⟩, by decide +kernel, by decide +kernel, by decide +kernel⟩
theorem bList : Wd.BiR X "list" .list := ⟨.inr ⟨"list", by decide +kernel, cr_list⟩, by decide +kernel, by decide +kernel, by decide +kernel⟩
theorem bSum (W : Wd X k s p Γ) : Wd.BiR X "sum" .sum := ⟨.inl ⟨"sum", by decide +kernel, cr_sumD W.calm⟩, by decide +kernel, by decide +kernel, by decide +kernel⟩
theorem bMax (W : Wd X k s p Γ) : Wd.BiR X "max" .max := ⟨.inl ⟨"max", by decide +kernel, cr_maxD W.calm⟩, by decide +kernel, by decide +kernel, by decide +kernel⟩
theorem bMin (W : Wd X k s p Γ) : Wd.BiR X "min" .min := ⟨.inl ⟨"min", by decide +kernel, cr_minD W.calm⟩, by decide +kernel, by decide +kernel, by decide +kernel⟩
theorem bSorted : Wd.BiR X "sorted" .sorted := ⟨.inl ⟨"sorted", by decide +kernel, cr_sortedD⟩, by decide +kernel, by decide +kernel, by decide +kernel⟩
theorem bAll (W : Wd X k s p Γ) : Wd.BiR X "all" .all := ⟨.inl ⟨"all", by decide +kernel, cr_allD W.calm⟩, by decide +kernel, by decide +kernel, by decide +kernel⟩
theorem bAny (W : Wd X k s p Γ) : Wd.BiR X "any" .any := ⟨.inl ⟨"any", by decide +kernel, cr_anyD W.calm⟩, by decide +kernel, by decide +kernel, by decide +kernel⟩
end
end TL


set_option autoImplicit false
/-! The tree layer, part 14: the bag; defs. -/
namespace TL
open PySem PySem.Spec PyProof.Rows L2
section
variable {X : Cx} {Γ : Gm}
theorem bag_ix {F : Fr0} {z : Addr → Prop} {H0 H : Hp} {v : V} {B : Bag} (w : WOk F.a0 F.a1 z B H) (r : RB F H0 z H .bag v) : v = .ref F.a0 ∧ H F.a0 = some (.lst [.ref F.a1, .int B.b, .int B.m]) := ⟨RB.bag r, w.b0⟩
theorem bget_tr {q : Nat} {ia : E} (G : GMono Γ) (hq : q = 1 ∨ q = 2) {σ : L2.St} {H : Hp} {Q : VK} (h : tr RV Γ (.bget q ia) σ H Q) : tOp (rIxL X.K) (tr RB Γ ia) (tC (.int (q : Int))) σ H Q := by
  obtain ⟨F, z, σa, B, sr, q0⟩ := h
  unfold wpE at q0
  refine ⟨F, z, σa, B, sr, wpE_mono G _ _ _ _ _ (fun d B1 k z1 H1 v x1 b1 r1 => ?_) q0⟩
  cases d <;> try exact False.elim k
  have w1 := x1.wok sr.w b1
  obtain ⟨rfl, e⟩ := bag_ix w1 r1
  rcases hq with rfl | rfl
  · exact ⟨F.a0, _, 1, _, rfl, rfl, SqL.of e, atI_nat (j := 1) rfl, k z1 H1 _ x1 b1 rep_int⟩
  · exact ⟨F.a0, _, 2, _, rfl, rfl, SqL.of e, atI_nat (j := 2) rfl, k z1 H1 _ x1 b1 rep_int⟩
theorem je_bget1 {a : Expr} {ia : E} {j : Nat} {p pos : Pos} (G : GMono Γ) (ha : JB X Γ a ia) : JE X Γ (.Subscript a (.Constant (.int 1) j p) pos) (.bget 1 ia) :=
  PE.imp (pe_ix ix_list ha pe_int fun _ _ => rfl) fun σ H Q h => bget_tr G (.inl rfl) h
theorem je_bget2 {a : Expr} {ia : E} {j : Nat} {p pos : Pos} (G : GMono Γ) (ha : JB X Γ a ia) : JE X Γ (.Subscript a (.Constant (.int 2) j p) pos) (.bget 2 ia) :=
  PE.imp (pe_ix ix_list ha pe_int fun _ _ => rfl) fun σ H Q h => bget_tr G (.inr rfl) h
theorem ints_dp {K : PySem.W.Frag} {H : Hp} : ∀ ns : List Int, DpAll K H (ns.map V.int) (toPys (ns.map D.int))
  | [] => Reps.dps (z := fun _ => False) (a0 := 0) (n := 5) rfl Reps.nil
  | n :: ns => Reps.dps (z := fun _ => False) (a0 := 0) (n := 5) (x := (n :: ns).map D.int) (by
    have : ∀ ms : List Int, okDs (ms.map D.int) 5 = true := fun ms => by
      induction ms with
      | nil => rfl
      | cons m ms ih => simp [okDs, okD, ih]
    exact this _) (Reps.ints _)
theorem okInts : ∀ (ms : List Int) (n : Nat), okDs (ms.map D.int) n = true
  | [], _ => rfl
  | m :: ms, n => by simp [okDs, okD, okInts ms n]
theorem eqNil (ms : List Int) : eqDs (ms.map D.int) [] = ms.isEmpty := by cases ms <;> rfl
theorem jt_bemp {a : Expr} {ia : E} {j : Nat} {p p2 p3 pos : Pos} (hu : X.A.units + 65 < cLine) (G : GMono Γ) (ha : JB X Γ a ia) : JT X Γ (.Compare (.Subscript a (.Constant (.int 0) j p) p2) [.Eq] [.List [] p3] pos) (.bemp ia) :=
  PT.imp (pt_cmpR (op_eqD (by omega)) (pe_ix ix_list ha pe_int fun _ _ => rfl) (pe_lst pa_nil) (by rfl)) fun σ H Q ⟨F, z, σa, B, sr, q⟩ => by
    unfold wpE at q
    refine ⟨F, z, σa, B, sr, wpE_mono G _ _ _ _ _ (fun d B1 k z1 H1 v x1 b1 r1 => ?_) q⟩
    cases d <;> try exact False.elim k
    have w1 := x1.wok sr.w b1
    obtain ⟨rfl, e⟩ := bag_ix w1 r1
    refine ⟨F.a0, _, 0, _, rfl, rfl, SqL.of e, atI_nat (j := 0) rfl, ?_⟩
    refine ⟨Nat.zero_le _, fun q nq => ?_⟩
    have x2 : XE F.a0 F.a1 z1 H1 z1 (upd H1 q (.lst [])) := XE.new nq
    have b2 := b1.new (o := HO.lst []) nq
    have nq1 : F.a1 ≠ q := fun h => by rw [← h, w1.b1] at nq; cases nq
    have e2 : (upd H1 q (.lst [])) F.a1 = some (.lst (B1.cells.map V.int)) := by rw [upd_ne nq1]; exact w1.b1
    have ok1 : okD (.lst (B1.cells.map D.int)) 5 = true := by unfold okD; rw [Bool.and_eq_true]; exact ⟨by decide, okInts _ _⟩
    refine ⟨toPy (.lst (B1.cells.map D.int)), toPy (.lst []), ?_, ?_, okD_shaped ok1 (by decide), okD_shaped (n := 5) rfl (by decide), B1.cells.isEmpty, ?_, k z1 _ (x1.trans x2) b2⟩
    · rw [toPy]
      exact .lst (SqL.of e2) (Reps.dps (z := fun _ => False) (a0 := 0) (n := 5) (okInts _ _) (Reps.ints _))
    · rw [toPy]
      exact .lst (SqL.of upd_same) .nil
    · rw [eqv_toPy]
      show V.bl (eqDs (B1.cells.map D.int) []) = _
      rw [eqNil]
theorem dropLast_map {ms : List Int} : (ms.map V.int).dropLast = ms.dropLast.map V.int := by rw [List.map_dropLast]
/-- the bag is changed -/
theorem XE.bag0 {a0 a1 : Addr} {z : Addr → Prop} {H : Hp} {o u : HO} (h : H a0 = some u) : XE a0 a1 z H z (upd H a0 o) where
  zz := fun _ h => h
  zn := fun _ h => .inl h
  ex := fun a u h h0 _ => by rw [upd_ne h0]; exact h
  dm := fun a n => by
    by_cases e : a = a0
    · rw [e, upd_same] at n; cases n
    · rw [upd_ne e] at n; exact n
theorem XE.bag1 {a0 a1 : Addr} {z : Addr → Prop} {H : Hp} {o u : HO} (h : H a1 = some u) : XE a0 a1 z H z (upd H a1 o) where
  zz := fun _ h => h
  zn := fun _ h => .inl h
  ex := fun a u h _ h1 => by rw [upd_ne h1]; exact h
  dm := fun a n => by
    by_cases e : a = a1
    · rw [e, upd_same] at n; cases n
    · rw [upd_ne e] at n; exact n
theorem bpop_tr {i j : Nat} {D : Ends} {σ : L2.St} {H : Hp} (h : trS Γ (.bpop i j) D σ H) : tAsg (tBM0 X.K "list" rPop (tOp (rIxL X.K) (tVar j) (tC (.int 0)))) (gName i) D σ H := by
  obtain ⟨F, z, σa, B, sr, q⟩ := h
  unfold wpS at q
  obtain ⟨d, e, k⟩ := bnd_iff.mp q
  cases d <;> try exact False.elim k
  obtain ⟨c, ec, k⟩ := bnd_iff.mp k
  obtain ⟨v, ev, r⟩ := sr.sl j _ (getV_get e)
  have r := r.bag
  subst r
  have w := sr.w
  refine ⟨_, ev, F.a0, _, 0, _, rfl, rfl, SqL.of w.b0, atI_nat (j := 0) rfl, .inl ⟨rfl, _, SqL.of w.b1⟩, F.a1, _, .int c, rfl, rfl, w.b1, ?_, ?_⟩
  · rw [← List.getLast?_eq_getElem?, List.getLast?_map, ec]; rfl
  · rw [dropLast_map]
    have x : XE F.a0 F.a1 z H z (upd H F.a1 (.lst (B.cells.dropLast.map V.int))) := XE.bag1 w.b1
    have b2 : BagAt F.a0 F.a1 { B with cells := B.cells.dropLast } (upd H F.a1 (.lst (B.cells.dropLast.map V.int))) := ⟨by rw [upd_ne w.bag.ne]; exact w.b0, upd_same⟩
    exact k z _ _ (x.xs w) ((sr.step x b2).setV rep_int)
theorem bset_tr {j q : Nat} {ir : E} {D : Ends} {σ : L2.St} {H : Hp} (G : GMono Γ) (hq : q = 1 ∨ q = 2) (h : trS Γ (.bset j q ir) D σ H) : tAsg (tr RV Γ ir) (gSub (tVar j) (tC (.int (q : Int))) rSetL) D σ H := by
  obtain ⟨F, z, σa, B, sr, k⟩ := h
  unfold wpS at k
  obtain ⟨d, e, k⟩ := bnd_iff.mp k
  cases d <;> try exact False.elim k
  obtain ⟨v, ev, r⟩ := sr.sl j _ (getV_get e)
  have r := r.bag
  subst r
  refine ⟨F, z, σa, B, sr, wpE_mono G _ _ _ _ _ (fun d B1 k z1 H1 v x1 b1 r1 => ?_) k⟩
  cases d <;> try exact False.elim k
  rename_i n
  obtain ⟨B2, h1, h2, h3, k⟩ := k
  have rv := r1.int
  subst rv
  have w1 := x1.wok sr.w b1
  have x2 : XE F.a0 F.a1 z1 H1 z1 (upd H1 F.a0 (.lst [.ref F.a1, .int B2.b, .int B2.m])) := XE.bag0 w1.b0
  have b2 : BagAt F.a0 F.a1 B2 (upd H1 F.a0 (.lst [.ref F.a1, .int B2.b, .int B2.m])) := ⟨upd_same, by rw [upd_ne (Ne.symm w1.bag.ne), h1]; exact w1.b1⟩
  have fin := k z1 σ _ ((x1.trans x2).xs sr.w) (sr.step (x1.trans x2) b2)
  refine ⟨_, ev, ?_⟩
  rcases hq with rfl | rfl
  · refine ⟨F.a0, _, 1, 1, rfl, rfl, w1.b0, (by rfl : ixN 3 1 = some 1), ?_⟩
    rw [if_pos rfl] at h2 h3
    rw [h2, h3] at fin
    exact fin
  · refine ⟨F.a0, _, 2, 2, rfl, rfl, w1.b0, (by rfl : ixN 3 2 = some 2), ?_⟩
    rw [if_neg (by decide)] at h2 h3
    rw [h2, h3] at fin
    exact fin
variable {k : Nat} {s : Sg} {p : Pg}
namespace Wd
theorem bget1 (W : Wd X k s p Γ) {a : Expr} {ia : E} {j : Nat} {p2 pos : Pos} (ha : JB X Γ a ia) : JE X Γ (.Subscript a (.Constant (.int 1) j p2) pos) (.bget 1 ia) := je_bget1 W.G ha
theorem bget2 (W : Wd X k s p Γ) {a : Expr} {ia : E} {j : Nat} {p2 pos : Pos} (ha : JB X Γ a ia) : JE X Γ (.Subscript a (.Constant (.int 2) j p2) pos) (.bget 2 ia) := je_bget2 W.G ha
theorem bemp (W : Wd X k s p Γ) {a : Expr} {ia : E} {j : Nat} {p1 p2 p3 pos : Pos} (ha : JB X Γ a ia) : JT X Γ (.Compare (.Subscript a (.Constant (.int 0) j p1) p2) [.Eq] [.List [] p3] pos) (.bemp ia) := jt_bemp W.hu W.G ha
theorem bpop (W : Wd X k s p Γ) {x y : Str} {i j q : Nat} {py p0 p1 p2 p3 pa pos : Pos} (hi : s.N[i]? = some x := by rfl) (hl : s.L.contains i = true := by rfl) (hj : s.N[j]? = some y := by rfl) (hv : s.V.contains j = true := by rfl)
    (hbase : attributeBase (.Subscript (.Name y py) (.Constant (.int 0) q p1) p2) "pop" X.env (eval (.Subscript (.Name y py) (.Constant (.int 0) q p1) p2) X.env) = eval (.Subscript (.Name y py) (.Constant (.int 0) q p1) p2) X.env := by rfl) (hline : (pa.endLine == p3.line) = true := by rfl)
    (hs : swapsWith (.Call (.Attribute (.Subscript (.Name y py) (.Constant (.int 0) q p1) p2) "pop" pa) [] [] p3) (some (.Name x p0)) pos.line X.env = pure false := by rfl) :
    JS X Γ (.Assign [.Name x p0] (.Call (.Attribute (.Subscript (.Name y py) (.Constant (.int 0) q p1) p2) "pop" pa) [] [] p3) pos) (.bpop i j) :=
  PS.imp (ps_set (i := i) (by rw [W.M.eN]; exact W.M.nd) (by rw [W.M.eN]; exact hi) (by rw [W.M.eS]; exact (W.loc hi (.inl hl)).1) (pe_bm0 PySem.F.plainAttrs_list PySem.F.slot_list_pop PySem.F.type_list_pop mt_pop (pe_ix ix_list (pe_name W.M (W.v j (mem_of hv) y hj)) pe_int fun _ _ => rfl) hbase hline) hs (by rw [W.M.eS]; exact (W.loc hi (.inl hl)).2)) fun D σ H h => bpop_tr h
theorem bset1 (W : Wd X k s p Γ) {x : Str} {e : Expr} {j q : Nat} {ir : E} {pn p1 pt pos : Pos} (he : JE X Γ e ir) (hi : s.N[j]? = some x := by rfl) (hv : s.V.contains j = true := by rfl)
    (hs : swapsWithSole [.Subscript (.Name x pn) (.Constant (.int 1) q p1) pt] e pos.line X.env = pure false := by rfl) (hw : swappedStores [.Subscript (.Name x pn) (.Constant (.int 1) q p1) pt] e X.env = pure none := by rfl) : JS X Γ (.Assign [.Subscript (.Name x pn) (.Constant (.int 1) q p1) pt] e pos) (.bset j 1 ir) :=
  PS.imp (ps_asg he (pg_sub (pe_name W.M (W.v j (mem_of hv) x hi)) pe_int set_list) hs hw rfl) fun D σ H h => bset_tr W.G (.inl rfl) h
theorem bset2 (W : Wd X k s p Γ) {x : Str} {e : Expr} {j q : Nat} {ir : E} {pn p1 pt pos : Pos} (he : JE X Γ e ir) (hi : s.N[j]? = some x := by rfl) (hv : s.V.contains j = true := by rfl)
    (hs : swapsWithSole [.Subscript (.Name x pn) (.Constant (.int 2) q p1) pt] e pos.line X.env = pure false := by rfl) (hw : swappedStores [.Subscript (.Name x pn) (.Constant (.int 2) q p1) pt] e X.env = pure none := by rfl) : JS X Γ (.Assign [.Subscript (.Name x pn) (.Constant (.int 2) q p1) pt] e pos) (.bset j 2 ir) :=
  PS.imp (ps_asg he (pg_sub (pe_name W.M (W.v j (mem_of hv) x hi)) pe_int set_list) hs hw rfl) fun D σ H h => bset_tr W.G (.inr rfl) h
end Wd
end

/-! ### defs -/
section
variable {P : Program} {w : World} {K : PySem.W.Frag} {mg : Str → Option Value} {base : Heap}
/-- what is known of the program's globals -/
structure Glob (P : Program) (w : World) (K : PySem.W.Frag) (mg : Str → Option Value) (base : Heap) (p : Pg) : Prop where
  blt : ∀ x ∈ BLT, mg x = none
  gl : ∀ t ∈ p.gs, ∃ tk, mg t.1 = some (.int t.2 tk)
abbrev AllK (P : Program) (w : World) (K : PySem.W.Frag) (mg : Str → Option Value) (base : Heap) (k : Nat) (p : Pg) (Γ : Gm) : Prop := ∀ t ∈ p.fs, Known P w K mg base k t (Γ t.i)
theorem start_sr {n : Nat} {a0 a1 : Addr} {z : Addr → Prop} {B : Bag} {H : Hp} {ds : List D} {vs : List V} (w : WOk a0 a1 z B H) (r : Reps z a0 H ds vs) (N : List Str) (hn : N.length = n) : SR ⟨a0, a1, H, z⟩ z (ds.map Sl.va ++ List.replicate (n - ds.length) Sl.no) B (L2.start N vs) H where
  w := w
  ext := fun _ _ h _ _ => h
  dm := fun _ h => h
  zn := fun _ h => .inl h
  zz := fun _ h => h
  len := by
    unfold L2.start
    rw [List.length_append, List.length_append, List.length_map, List.length_map, List.length_replicate, List.length_replicate, r.length, hn]
  sl := fun i s e => by
    unfold L2.start
    rw [List.getElem?_append] at e
    split at e
    · rename_i hi
      rw [List.getElem?_map] at e
      cases hd : ds[i]? with
      | none => rw [hd] at e; cases e
      | some d =>
        rw [hd] at e
        cases e
        obtain ⟨v, hv, rv⟩ := r.get hd
        refine ⟨v, ?_, rv⟩
        have hl : i < (vs.map some).length := by
          rw [List.length_map]
          exact (List.getElem?_eq_some_iff.mp hv).1
        rw [List.getElem?_append_left hl, List.getElem?_map, hv]
        rfl
    · rw [List.getElem?_replicate] at e
      split at e
      · cases e
        trivial
      · cases e
  inj := fun i j s t p e1 e2 o1 o2 _ _ => by
    rw [List.getElem?_append] at e1
    split at e1
    · rw [List.getElem?_map] at e1
      cases hd : ds[i]? with
      | none => rw [hd] at e1; cases e1
      | some d => rw [hd] at e1; cases e1; cases o1
    · rw [List.getElem?_replicate] at e1
      split at e1
      · cases e1; cases o1
      · cases e1
/-- a body's ends are the call's -/
theorem end_le {a0 a1 : Addr} {z : Addr → Prop} {H : Hp} {Q : VK} {R : D → Bag → Prop} (h : ∀ d B, R d B → ∀ z' H' v, XE a0 a1 z H z' H' → BagAt a0 a1 B H' → Rep z' a0 H' d v → Q v H') :
    Pst.Le ⟨fun _ B' => R .non B', R, fun _ _ => False, fun _ _ => False⟩ (toP ⟨a0, a1, H, z⟩ z H { nx := fun _ H' => Q .non H', rt := Q }) := by
  have go : ∀ {z' : Addr → Prop} {σa : List Sl} {B : Bag} {σ : L2.St} {H' : Hp}, SR ⟨a0, a1, H, z⟩ z' σa B σ H' → XE a0 a1 z H z' H' := fun {z' σa B σ H'} sr => ⟨sr.zz, fun a hz => by
    rcases sr.zn a hz with q | q
    · exact .inl q
    · exact .inr ⟨q, sr.w.zt a hz⟩, sr.ext, sr.dm⟩
  exact ⟨fun _ B k z' σ H' _ sr => h _ _ k z' H' _ (go sr) sr.w.bag rep_non, fun d B k z' σa σ H' v _ sr r => h _ _ k z' H' _ (go sr) sr.w.bag r, fun _ _ k => k.elim, fun _ _ k => k.elim⟩
/-- what a body has at its start -/
theorem wd_of {qual : Str} {scope : Scope} {f : Addr} {cdv : Value} {A : Around} {outer : List Env} {S : Shared} {H : Hp} {E : XK} {k : Nat} {s : Sg} {p : Pg} {Γ : Gm} (ok : SgOk s) (hs : s.sc = scope) (gb : Glob P w K mg base p) (G : GMono Γ) (all : AllK P w K mg base k p Γ)
    (hr : Room k (A.deeper (envOfC qual scope S.heap.objs.size f cdv))) : Wd (cxOf CX0 P w K mg base s.N qual scope f cdv A outer S H E).nox k s p Γ where
  calm := rfl
  room := hr
  pass := PassesOwn.never
  blt := gb.blt
  fn := all
  gl := gb.gl
  G := G
  M := ⟨rfl, ok.nd, by rw [hs]; rfl⟩
  v := ok.v
  l := ok.l
  c := fun i hi x e => ⟨ok.c i hi x e, rfl⟩
  g := ok.g
  kd := ok.kd
theorem fn_ok {x qual : Str} {st : Stmt} {f : Addr} {fd : FuncData} {ps : List Str} {k : Nat} {s : Sg} {p : Pg} {Γ : Gm} {ir : List S} {sem : Sm} (F : Fun K x qual st f fd) (S : FnScope s.N ps (defScope st)) (ok : SgOk s) (hs : s.sc = defScope st) (gb : Glob P w K mg base p) (G : GMono Γ) (all : AllK P w K mg base k p Γ)
    (j : ∀ {X : Cx}, Wd X k s p Γ → JSs X Γ (defBody st) ir) (h : ∀ ds B Q, ds.length = ps.length → sem ds B Q → wpFn Γ s.N.length ir ds B Q) : FnOk P w K mg base CX0 (k + 1) f fd ps (spOf ps.length sem) := by
  refine F.ok S (spOf_len rfl) (fun cdv A outer S0 H vs Q E hr hsp => ?_)
  refine ⟨_, j (wd_of ok hs gb G all hr), ?_⟩
  obtain ⟨a0, a1, z, B, ds, w0, r, l, q⟩ := hsp
  exact ⟨⟨a0, a1, H, z⟩, z, _, B, start_sr w0 r s.N rfl, wpSs_mono G ir _ _ _ _ (end_le fun d B k => k) (h _ _ _ l q)⟩
/-- the defs up to the m-th are known -/
def cut (m : Nat) (Γ : Gm) : Gm := fun i => if i < m then Γ i else bad
theorem cut_mono {m : Nat} {Γ : Gm} (G : GMono Γ) : GMono (cut m Γ) := fun i ds B Q Q' h q => by
  unfold cut at q ⊢
  split at q
  · rename_i hi
    rw [if_pos hi]
    exact G i ds B Q Q' h q
  · exact q.elim
/-- a def as it stands, unread -/
def There (K : PySem.W.Frag) (mg : Str → Option Value) (t : Fn) (f : Addr) (fd : FuncData) : Prop := mg t.x = some (.ref f) ∧ PySem.W.keepIn K (.ref f) = true ∧ Binds K fd t.ps [] ∧ ∀ q ∈ t.kw, KwB K fd t.ps q.1 q.2.1 q.2.2
theorem known_bad {k : Nat} {t : Fn} {f : Addr} {fd : FuncData} (h : There K mg t f fd) : Known P w K mg base k t bad :=
  ⟨f, fd, ⟨fun _ _ _ _ ⟨_, _, _, _, _, _, _, _, q⟩ => q.elim, fun _ _ _ _ _ _ _ _ _ _ _ _ _ ⟨_, _, _, _, _, _, _, _, q⟩ => q.elim⟩, h.1, h.2.1, h.2.2.1, h.2.2.2⟩
theorem Known.mono {j k : Nat} {t : Fn} {sem : Sm} (h : Known P w K mg base j t sem) (hk : j ≤ k) : Known P w K mg base k t sem := by
  obtain ⟨f, fd, F, r⟩ := h
  exact ⟨f, fd, F.mono hk, r⟩
theorem all_start {p : Pg} {Γ : Gm} (h : ∀ t ∈ p.fs, ∃ f fd, There K mg t f fd) : AllK P w K mg base 0 p (cut 0 Γ) := fun t ht => by
  obtain ⟨f, fd, h⟩ := h t ht
  have e : cut 0 Γ t.i = bad := if_neg (Nat.not_lt_zero _)
  rw [e]
  exact known_bad h
/-- one def more -/
theorem all_step {p : Pg} {Γ : Gm} {m k k' : Nat} {t : Fn} {f : Addr} {fd : FuncData} (hk : k ≤ k') (all : AllK P w K mg base k p (cut m Γ)) (ht : p.fs[m]? = some t) (hi : ∀ (i : Nat) (u : Fn), p.fs[i]? = some u → u.i = i) (h : There K mg t f fd) (F : FnOk P w K mg base CX0 k' f fd t.ps (spOf t.ps.length (Γ m))) :
    AllK P w K mg base k' p (cut (m + 1) Γ) := fun u hu => by
  obtain ⟨i, hi2⟩ := List.getElem?_of_mem hu
  have e := hi i u hi2
  by_cases h1 : i < m
  · have e1 : cut (m + 1) Γ u.i = cut m Γ u.i := by
      unfold cut
      rw [e, if_pos h1, if_pos (by omega)]
    rw [e1]
    exact (all u hu).mono hk
  · by_cases h2 : i = m
    · subst h2
      rw [ht] at hi2
      cases hi2
      have e1 : cut (i + 1) Γ t.i = Γ i := by
        unfold cut
        rw [e, if_pos (Nat.lt_succ_self _)]
      rw [e1]
      exact ⟨f, fd, F, h⟩
    · have e1 : cut (m + 1) Γ u.i = cut m Γ u.i := by
        unfold cut
        rw [e, if_neg h1, if_neg (by omega)]
      rw [e1]
      exact (all u hu).mono hk
end
/-! ### loops -/
theorem loopL_inv {f : D → Pst → List Sl → Bag → Prop} {xs : List D} {P : Pst} (I : Nat → List Sl → Bag → Prop) (hm : ∀ x (P P' : Pst) σ B, P.Le P' → f x P σ B → f x P' σ B)
    (hs : ∀ i x σ B, xs[i]? = some x → I i σ B → f x ⟨I (i + 1), P.rt, P.nx, I (i + 1)⟩ σ B) (hd : ∀ σ B, I xs.length σ B → P.nx σ B) {σ : List Sl} {B : Bag} (h0 : I 0 σ B) : loopL f xs P σ B := by
  have go : ∀ (n i : Nat) (σ : List Sl) (B : Bag), n + i = xs.length → I i σ B → loopL f (xs.drop i) P σ B := fun n => by
    induction n with
    | zero =>
      intro i σ B e q
      have e : i = xs.length := by omega
      subst e
      rw [List.drop_length]
      exact hd σ B q
    | succ n ih =>
      intro i σ B e q
      have hi : i < xs.length := by omega
      rw [List.drop_eq_getElem_cons hi]
      exact hm _ ⟨I (i + 1), P.rt, P.nx, I (i + 1)⟩ _ _ _ ⟨fun σ B k => ih (i + 1) σ B (by omega) k, fun _ _ k => k, fun _ _ k => k, fun σ B k => ih (i + 1) σ B (by omega) k⟩ (hs i _ σ B (List.getElem?_eq_getElem hi) q)
  have := go xs.length 0 σ B (by omega) h0
  simpa using this
theorem frL_mono {Γ : Gm} (G : GMono Γ) {tg : Tg} {b : List S} : ∀ x (P P' : Pst) σ B, P.Le P' → (fun (x : D) (P : Pst) (σ : List Sl) (B : Bag) => bnd (bindT tg x σ) fun σ' => wpSs Γ b P σ' B) x P σ B → (fun (x : D) (P : Pst) (σ : List Sl) (B : Bag) => bnd (bindT tg x σ) fun σ' => wpSs Γ b P σ' B) x P' σ B :=
  fun _ P P' _ _ h u => bnd_mono (fun _ v => wpSs_mono G b P P' _ _ h v) u
end TL


set_option autoImplicit false
/-! The tree layer, part 15: steps; the laws' own helpers: draw, pick, same. -/
namespace TL
open PySem PySem.Spec PyProof.Rows L2
section
variable {Γ : Gm} {P : Pst} {σ : List Sl} {B : Bag}
theorem s_asg {i : Nat} {e : E} : wpS Γ (.asg i e) P σ B = wpE Γ e σ B fun d B1 => P.nx (σ.set i (.va d)) B1 := by rw [wpS]
theorem s_asgO {i : Nat} {e : E} : wpS Γ (.asgO i e) P σ B = wpE Γ e σ B fun d B1 => bnd (ownS d) fun s => P.nx (σ.set i s) B1 := by rw [wpS]
theorem s_unp {t : Tg} {e : E} : wpS Γ (.unp t e) P σ B = wpE Γ e σ B fun d B1 => bnd (bindT t d σ) fun σ' => P.nx σ' B1 := by rw [wpS]
theorem s_par {ts : List (Nat × Bool)} {es : List E} : wpS Γ (.par ts es) P σ B = wpEs Γ es σ B fun ds B1 => bnd (parT ts ds σ) fun σ' => P.nx σ' B1 := by rw [wpS]
theorem s_app {i : Nat} {e : E} : wpS Γ (.app i e) P σ B = bnd (getO σ i) fun xs => wpE Γ e σ B fun d B1 => xs.length < LIM ∧ P.nx (σ.set i (.ow (xs ++ [d]))) B1 := by rw [wpS]
theorem s_ext {i : Nat} {e : E} : wpS Γ (.ext i e) P σ B = bnd (getO σ i) fun xs => wpE Γ e σ B fun d B1 => match d with
    | .lst ys => xs.length + ys.length ≤ LIM ∧ P.nx (σ.set i (.ow (xs ++ ys))) B1
    | _ => False := by unfold wpS; rfl
theorem s_seti {i : Nat} {k e : E} : wpS Γ (.seti i k e) P σ B = bnd (getO σ i) fun xs => wpE Γ e σ B fun d B1 => wpE Γ k σ B1 fun kd B2 => match kd with
    | .int j => bnd (setAt xs j d) fun ys => P.nx (σ.set i (.ow ys)) B2
    | _ => False := by unfold wpS; rfl
theorem s_ex {e : E} : wpS Γ (.ex e) P σ B = wpE Γ e σ B fun _ B1 => P.nx σ B1 := by rw [wpS]
theorem s_ite {c : E} {a b : List S} : wpS Γ (.ite c a b) P σ B = wpE Γ c σ B fun d B1 => tst d fun t => if t = true then wpSs Γ a P σ B1 else wpSs Γ b P σ B1 := by rw [wpS]
theorem s_ret {e : E} : wpS Γ (.ret e) P σ B = wpE Γ e σ B P.rt := by rw [wpS]
theorem s_retN : wpS Γ .retN P σ B = P.rt .non B := by rw [wpS]
theorem s_brk : wpS Γ .brk P σ B = P.bk σ B := by rw [wpS]
theorem s_cnt : wpS Γ .cnt P σ B = P.ct σ B := by rw [wpS]
theorem s_pas : wpS Γ .pas P σ B = P.nx σ B := by rw [wpS]
theorem s_nvr : wpS Γ .nvr P σ B = False := by rw [wpS]
theorem s_frz {is : List Nat} : wpS Γ (.frz is) P σ B = P.nx (frzS σ is) B := by rw [wpS]
theorem s_mov {i j : Nat} : wpS Γ (.mov i j) P σ B = bnd (getO σ j) fun xs => P.nx ((σ.set j .no).set i (.ow xs)) B := by rw [wpS]
theorem s_bpop {i j : Nat} : wpS Γ (.bpop i j) P σ B = bnd (getV σ j) fun x => match x with | .bag => bnd B.cells.getLast? fun c => P.nx (σ.set i (.va (.int c))) { B with cells := B.cells.dropLast } | _ => False := by unfold wpS; rfl
theorem s_bset {j q : Nat} {e : E} : wpS Γ (.bset j q e) P σ B = bnd (getV σ j) fun x => match x with
    | .bag => wpE Γ e σ B fun d B1 => match d with
      | .int v => ∃ B2 : Bag, B2.cells = B1.cells ∧ B2.b = (if q = 1 then v else B1.b) ∧ B2.m = (if q = 1 then B1.m else v) ∧ P.nx σ B2
      | _ => False
    | _ => False := by unfold wpS; rfl
end
section
variable {Γ : Gm} {P : Pst} {σ : List Sl} {B : Bag}
theorem wps_cons {s : S} {ss : List S} : wpSs Γ (s :: ss) P σ B = wpS Γ s ⟨wpSs Γ ss P, P.rt, P.bk, P.ct⟩ σ B := by rw [wpSs]
theorem wps_nil : wpSs Γ [] P σ B = P.nx σ B := by rw [wpSs]
theorem at_0 {x : D} {xs : List D} : L2.atI (x :: xs) 0 = some x := atI_nat (j := 0) rfl
theorem at_1 {x y : D} {xs : List D} : L2.atI (x :: y :: xs) 1 = some y := atI_nat (j := 1) rfl
theorem at_2 {x y z : D} {xs : List D} : L2.atI (x :: y :: z :: xs) 2 = some z := atI_nat (j := 2) rfl
theorem at_3 {x y z u : D} {xs : List D} : L2.atI (x :: y :: z :: u :: xs) 3 = some u := atI_nat (j := 3) rfl
theorem ty_beq (a b : Ty) : (a == b) = decide (a = b) := rfl
theorem iteI {c : Prop} {d : Decidable c} {A B : Prop} (h1 : c → A) (h2 : ¬ c → B) : @ite Prop c d A B := by
  by_cases h : c
  · rw [if_pos h]; exact h1 h
  · rw [if_neg h]; exact h2 h
/-- a loop by its invariant -/
theorem wp_for {tg : Tg} {k : IK} {es : List E} {b : List S} (G : GMono Γ)
    (h : wpEs Γ es σ B fun ds B1 => iterD k ds fun xs => ∃ I : Nat → List Sl → Bag → Prop, I 0 σ B1 ∧ (∀ i x σ B, xs[i]? = some x → I i σ B → bnd (bindT tg x σ) fun σ' => wpSs Γ b ⟨I (i + 1), P.rt, P.nx, I (i + 1)⟩ σ' B) ∧ ∀ σ B, I xs.length σ B → P.nx σ B) :
    wpS Γ (.fr tg k es b) P σ B := by
  unfold wpS
  exact wpEs_mono G _ _ _ _ _ (fun ds B1 q => iterD_mono (fun xs ⟨I, h0, hs, hd⟩ => loopL_inv I (frL_mono G) hs hd h0) q) h
theorem wp_whl {c : E} {b : List S} (G : GMono Γ) (I : Nat → List Sl → Bag → Prop) (n : Nat) (h0 : I n σ B)
    (hs : ∀ n σ B, I n σ B → wpE Γ c σ B fun d B1 => tst d fun t => if t = true then wpSs Γ b ⟨fun σ B => ∃ m, m < n ∧ I m σ B, P.rt, P.nx, fun σ B => ∃ m, m < n ∧ I m σ B⟩ σ B1 else P.nx σ B1) : wpS Γ (.whl c b) P σ B := by
  unfold wpS
  refine ⟨n + 1, ?_⟩
  have go : ∀ (N m : Nat) (σ : List Sl) (B : Bag), m < N → I m σ B → whileN (fun σ B K => wpE Γ c σ B fun d B1 => tst d fun t => K t B1) (wpSs Γ b) N P σ B := fun N => by
    induction N with
    | zero => intro m σ B h; exact absurd h (Nat.not_lt_zero _)
    | succ N ih =>
      intro m σ B hm q
      unfold whileN
      refine wpE_mono G _ _ _ _ _ (fun d B1 k => tst_mono (fun t k => ?_) k) (hs m σ B q)
      cases t with
      | false => exact k
      | true => exact wpSs_mono G b ⟨fun σ B => ∃ m', m' < m ∧ I m' σ B, P.rt, P.nx, fun σ B => ∃ m', m' < m ∧ I m' σ B⟩ ⟨_, P.rt, P.nx, _⟩ _ _ ⟨fun σ B ⟨m', h1, h2⟩ => ih m' σ B (by omega) h2, fun _ _ k => k, fun _ _ k => k, fun σ B ⟨m', h1, h2⟩ => ih m' σ B (by omega) h2⟩ k
  exact go (n + 1) n σ B (Nat.lt_succ_self _) h0
theorem wps_mono (G : GMono Γ) {ss : List S} {P' : Pst} (h : wpSs Γ ss P' σ B) (l : Pst.Le P' P) : wpSs Γ ss P σ B := wpSs_mono G ss _ _ _ _ l h
/-- a comprehension by its item's function (no draws within) -/
theorem lcL_map {f : D → Bag → (List D → Bag → Prop) → Prop} {g : D → List D} : ∀ {xs : List D} {B : Bag} {Q : List D → Bag → Prop}, (∀ x ∈ xs, ∀ (B : Bag) (K : List D → Bag → Prop), K (g x) B → f x B K) → Q (xs.flatMap g) B → lcL f xs B Q
  | [], B, Q, h, q => q
  | x :: xs, B, Q, h, q => h x (List.mem_cons_self ..) _ _ (lcL_map (fun y hy => h y (List.mem_cons_of_mem _ hy)) (by rw [List.flatMap_cons] at q; exact q))
end
theorem lcL_one {α : Type} {f : D → Bag → (List D → Bag → Prop) → Prop} {F H : α → D} : ∀ {rows : List α} {B : Bag} {Q : List D → Bag → Prop}, (∀ r ∈ rows, ∀ (B : Bag) (K : List D → Bag → Prop), K [H r] B → f (F r) B K) → Q (rows.map H) B → lcL f (rows.map F) B Q
  | [], B, Q, h, q => q
  | x :: xs, B, Q, h, q => h x (List.mem_cons_self ..) _ _ (lcL_one (fun y hy => h y (List.mem_cons_of_mem _ hy)) (by rw [List.map_cons] at q; exact q))
theorem divOk_of {n : Int} (h : 0 < n) (h2 : n < 18446744073709551616) : divOk n := by
  refine ⟨h, ?_⟩
  have h3 : n.natAbs < 2 ^ 64 := by omega
  have := (Nat.log2_lt (by omega)).mpr h3
  omega
theorem mulOk_l {i j : Int} (h : -(2 ^ 64) < i ∧ i < 2 ^ 64) : mulOk i j := .inl h
theorem mulOk_r {i j : Int} (h : -(2 ^ 64) < j ∧ j < 2 ^ 64) : mulOk i j := .inr (.inl h)
def irDraw : List S := [(.fr (.nm 2) .rng [(.int 64)] [(.ite (.or (.cmp .gt (.bget 1 (.bor 0)) (.int 0)) (.bemp (.bor 0)))
  [.brk]
  []),
  (.bpop 3 0),
  (.bset 0 1 (.ite (.cmp .gt (.bor 3) (.bin .pow (.int 10) (.int 9))) (.var 3) (.int 0)))]),
  (.ite (.cmp .gt (.bget 1 (.bor 0)) (.int 0))
  [(.asg 4 (.bin .mod (.bi .int [(.bget 1 (.bor 0))]) (.bor 1))),
  (.bset 0 1 (.ite (.cmp .gt (.bor 1) (.int 1)) (.bin .fdiv (.bget 1 (.bor 0)) (.bor 1)) (.bin .fdiv (.bget 1 (.bor 0)) (.int 2)))),
  (.ret (.var 4))]
  []),
  (.bset 0 2 (.bin .mod (.bin .add (.bin .mul (.bi .int [(.bget 2 (.bor 0))]) (.int 48271)) (.int 11)) (.int 2147483647))),
  (.ret (.bin .mod (.bin .fdiv (.bin .mod (.bi .int [(.bin .mul (.bget 2 (.bor 0)) (.bget 2 (.bor 0)))]) (.int 2147483629)) (.int 7)) (.bor 1)))]
/-- a draw: any number below -/
def semDraw : Sm := fun ds B Q => ∃ n : Int, ds = [.bag, .int n] ∧ 0 < n ∧ n < 1000000000000 ∧ ∀ (d : Int) (B' : Bag), 0 ≤ d → d < n → Q (.int d) B'
theorem drawEnd {n : Int} {B : Bag} {Q : D → Bag → Prop} (h0 : 0 < n) (h1 : n < 1000000000000) (h : ∀ (d : Int) (B' : Bag), 0 ≤ d → d < n → Q (.int d) B') :
    if 0 < B.b then
      0 < n ∧ if 1 < n then divOk n ∧ ∃ B2 : Bag, B2.cells = B.cells ∧ B2.b = B.b / n ∧ B2.m = B.m ∧ Q (.int (B.b % n)) B2
        else divOk 2 ∧ ∃ B2 : Bag, B2.cells = B.cells ∧ B2.b = B.b / 2 ∧ B2.m = B.m ∧ Q (.int (B.b % n)) B2
    else mulOk B.m 48271 ∧ (0 : Int) < 2147483647 ∧ ∃ B2 : Bag, B2.cells = B.cells ∧ B2.b = B.b ∧ B2.m = (B.m * 48271 + 11) % 2147483647 ∧ mulOk B2.m B2.m ∧ (0 : Int) < 2147483629 ∧ divOk 7 ∧ 0 < n ∧ Q (.int (B2.m * B2.m % 2147483629 / 7 % n)) B2 := by
  split
  · refine ⟨h0, ?_⟩
    have go := h (B.b % n) 
    split
    · exact ⟨divOk_of h0 (by omega), ⟨B.cells, B.b / n, B.m, B.ok⟩, rfl, rfl, rfl, go _ (Int.emod_nonneg _ (by omega)) (Int.emod_lt_of_pos _ h0)⟩
    · exact ⟨divOk_of (by decide) (by decide), ⟨B.cells, B.b / 2, B.m, B.ok⟩, rfl, rfl, rfl, go _ (Int.emod_nonneg _ (by omega)) (Int.emod_lt_of_pos _ h0)⟩
  · have hm := B.ok
    refine ⟨mulOk_r (by decide), by decide, ⟨B.cells, B.b, (B.m * 48271 + 11) % 2147483647, by omega⟩, rfl, rfl, rfl, ?_, by decide, divOk_of (by decide) (by decide), h0, h _ _ (Int.emod_nonneg _ (by omega)) (Int.emod_lt_of_pos _ h0)⟩
    exact mulOk_l ⟨by show -(2 ^ 64) < (B.m * 48271 + 11) % 2147483647; omega, by show (B.m * 48271 + 11) % 2147483647 < 2 ^ 64; omega⟩
theorem draw_wp {Γ : Gm} (G : GMono Γ) {ds : List D} {B : Bag} {Q : D → Bag → Prop} (h : semDraw ds B Q) : wpFn Γ 5 irDraw ds B Q := by
  obtain ⟨n, rfl, h0, h1, h⟩ := h
  unfold wpFn irDraw
  rw [wps_cons]
  refine wp_for G ?_
  simp only [s_asg, s_asgO, s_unp, s_par, s_app, s_ext, s_seti, s_ex, s_ite, s_ret, s_retN, s_brk, s_cnt, s_pas, s_nvr, s_frz, s_mov, s_bpop, s_bset, wpE, wpEs, getV, getB, getO, bnd_some, tst_bl, binD, addD, subD, mulD, int2, cmpD, ordD, biD, one, extD, atD, bindT, bindTs, parT, ownS, iterD, itemsOf, partD, absE, sliD, revD, isTy, isNon, permD, List.set_cons_zero, List.set_cons_succ, List.getD_cons_zero, List.getD_cons_succ, frzS, frz1, wipeS, List.modify_zero_cons, List.modify_succ_cons, Bool.true_eq_false, Bool.false_eq_true, if_true, if_false, ite_true, ite_false, reduceIte, List.replicate, Nat.add_zero, Nat.zero_add, if_pos, Nat.one_ne_zero, Nat.reduceEqDiff, reduceCtorEq, decide_eq_true_eq, eqD, eqDs, ty_beq, decide_true, decide_false, Bool.not_true, Bool.not_false, wps_cons, wps_nil, List.map_cons, List.map_nil, List.cons_append, List.nil_append, Bool.and_true, Bool.true_and, Bool.and_false, Bool.false_and, not_true_eq_false, not_false_eq_true, List.length_cons, List.length_nil, at_0, at_1, at_2, at_3]
  refine ⟨⟨by decide, by decide⟩, fun _ σ _ => ∃ s2 s3, σ = [.va .bag, .va (.int n), s2, s3, .no], ⟨.no, .no, rfl⟩, ?_, ?_⟩
  · rintro i x σ B hx ⟨s2, s3, rfl⟩
    simp only [s_asg, s_asgO, s_unp, s_par, s_app, s_ext, s_seti, s_ex, s_ite, s_ret, s_retN, s_brk, s_cnt, s_pas, s_nvr, s_frz, s_mov, s_bpop, s_bset, wpE, wpEs, getV, getB, getO, bnd_some, tst_bl, binD, addD, subD, mulD, int2, cmpD, ordD, biD, one, extD, atD, bindT, bindTs, parT, ownS, iterD, itemsOf, partD, absE, sliD, revD, isTy, isNon, permD, List.set_cons_zero, List.set_cons_succ, List.getD_cons_zero, List.getD_cons_succ, frzS, frz1, wipeS, List.modify_zero_cons, List.modify_succ_cons, Bool.true_eq_false, Bool.false_eq_true, if_true, if_false, ite_true, ite_false, reduceIte, List.replicate, Nat.add_zero, Nat.zero_add, if_pos, Nat.one_ne_zero, Nat.reduceEqDiff, reduceCtorEq, decide_eq_true_eq, eqD, eqDs, ty_beq, decide_true, decide_false, Bool.not_true, Bool.not_false, wps_cons, wps_nil, List.map_cons, List.map_nil, List.cons_append, List.nil_append, Bool.and_true, Bool.true_and, Bool.and_false, Bool.false_and, not_true_eq_false, not_false_eq_true, List.length_cons, List.length_nil, at_0, at_1, at_2, at_3]
    have e := drawEnd (B := B) h0 h1 h
    by_cases hb : 0 < B.b
    · rw [if_pos hb] at e
      rw [if_pos hb, if_pos hb]
      exact e
    · rw [if_neg hb] at e
      rw [if_neg hb, if_neg hb]
      split
      · exact e
      · rename_i he
        cases hc : B.cells.getLast? with
        | none =>
          rw [List.getLast?_eq_none_iff] at hc
          rw [hc] at he
          exact absurd rfl he
        | some c =>
          rw [bnd_some]
          refine ⟨by decide, ?_⟩
          split
          · exact ⟨⟨_, c, B.m, B.ok⟩, rfl, rfl, rfl, _, _, rfl⟩
          · exact ⟨⟨_, 0, B.m, B.ok⟩, rfl, rfl, rfl, _, _, rfl⟩
  · rintro σ B ⟨s2, s3, rfl⟩
    simp only [s_asg, s_asgO, s_unp, s_par, s_app, s_ext, s_seti, s_ex, s_ite, s_ret, s_retN, s_brk, s_cnt, s_pas, s_nvr, s_frz, s_mov, s_bpop, s_bset, wpE, wpEs, getV, getB, getO, bnd_some, tst_bl, binD, addD, subD, mulD, int2, cmpD, ordD, biD, one, extD, atD, bindT, bindTs, parT, ownS, iterD, itemsOf, partD, absE, sliD, revD, isTy, isNon, permD, List.set_cons_zero, List.set_cons_succ, List.getD_cons_zero, List.getD_cons_succ, frzS, frz1, wipeS, List.modify_zero_cons, List.modify_succ_cons, Bool.true_eq_false, Bool.false_eq_true, if_true, if_false, ite_true, ite_false, reduceIte, List.replicate, Nat.add_zero, Nat.zero_add, if_pos, Nat.one_ne_zero, Nat.reduceEqDiff, reduceCtorEq, decide_eq_true_eq, eqD, eqDs, ty_beq, decide_true, decide_false, Bool.not_true, Bool.not_false, wps_cons, wps_nil, List.map_cons, List.map_nil, List.cons_append, List.nil_append, Bool.and_true, Bool.true_and, Bool.and_false, Bool.false_and, not_true_eq_false, not_false_eq_true, List.length_cons, List.length_nil, at_0, at_1, at_2, at_3]
    exact drawEnd h0 h1 h
theorem draw_mono : ∀ ds B (Q Q' : D → Bag → Prop), (∀ d B, Q d B → Q' d B) → semDraw ds B Q → semDraw ds B Q' := fun ds B Q Q' h ⟨n, e, a, b, c⟩ => ⟨n, e, a, b, fun d B' x y => h _ _ (c d B' x y)⟩
def irPick (i : Nat) : List S := [(.ret (.idx (.bor 1) (.call i [(.var 0), (.bi .len [(.bor 1)])])))]
/-- one of a list or tuple -/
def semPick : Sm := fun ds B Q => ∃ x xs, ds = [.bag, x] ∧ itemsOf x = some xs ∧ xs ≠ [] ∧ xs.length ≤ 1000000 ∧ ∀ d ∈ xs, ∀ B', Q d B'
theorem pick_wp {Γ : Gm} {i : Nat} (G : GMono Γ) (hi : Γ i = semDraw) {ds : List D} {B : Bag} {Q : D → Bag → Prop} (h : semPick ds B Q) : wpFn Γ 2 (irPick i) ds B Q := by
  obtain ⟨x, xs, rfl, e, hn, hl, h⟩ := h
  have hp : 0 < xs.length := List.length_pos_iff.mpr hn
  have at_ : ∀ {d : Int}, 0 ≤ d → d < (xs.length : Int) → ∃ y, L2.atI xs d = some y ∧ y ∈ xs := fun {d} h0 h1 => by
    obtain ⟨n, rfl⟩ := Int.eq_ofNat_of_zero_le h0
    have hn : n < xs.length := by omega
    exact ⟨xs[n], atI_nat (List.getElem?_eq_getElem hn), List.getElem_mem hn⟩
  cases x <;> simp only [itemsOf, reduceCtorEq] at e
  · injection e with e; subst e
    unfold wpFn irPick
    simp only [s_asg, s_asgO, s_unp, s_par, s_app, s_ext, s_seti, s_ex, s_ite, s_ret, s_retN, s_brk, s_cnt, s_pas, s_nvr, s_frz, s_mov, s_bpop, s_bset, wpE, wpEs, getV, getB, getO, bnd_some, tst_bl, binD, addD, subD, mulD, int2, cmpD, ordD, biD, one, extD, atD, bindT, bindTs, parT, ownS, iterD, itemsOf, partD, absE, sliD, revD, isTy, isNon, permD, List.set_cons_zero, List.set_cons_succ, List.getD_cons_zero, List.getD_cons_succ, frzS, frz1, wipeS, List.modify_zero_cons, List.modify_succ_cons, Bool.true_eq_false, Bool.false_eq_true, if_true, if_false, ite_true, ite_false, reduceIte, List.replicate, Nat.add_zero, Nat.zero_add, if_pos, Nat.one_ne_zero, Nat.reduceEqDiff, reduceCtorEq, decide_eq_true_eq, eqD, eqDs, ty_beq, decide_true, decide_false, Bool.not_true, Bool.not_false, wps_cons, wps_nil, List.map_cons, List.map_nil, List.cons_append, List.nil_append, Bool.and_true, Bool.true_and, Bool.and_false, Bool.false_and, not_true_eq_false, not_false_eq_true, List.length_cons, List.length_nil, at_0, at_1, at_2, at_3, hi]
    refine ⟨_, rfl, by omega, by omega, fun d B' h0 h1 => ?_⟩
    obtain ⟨y, e, hy⟩ := at_ h0 h1
    show bnd (L2.atI _ d) _
    rw [e, bnd_some]
    exact h y hy B'
  · injection e with e; subst e
    unfold wpFn irPick
    simp only [s_asg, s_asgO, s_unp, s_par, s_app, s_ext, s_seti, s_ex, s_ite, s_ret, s_retN, s_brk, s_cnt, s_pas, s_nvr, s_frz, s_mov, s_bpop, s_bset, wpE, wpEs, getV, getB, getO, bnd_some, tst_bl, binD, addD, subD, mulD, int2, cmpD, ordD, biD, one, extD, atD, bindT, bindTs, parT, ownS, iterD, itemsOf, partD, absE, sliD, revD, isTy, isNon, permD, List.set_cons_zero, List.set_cons_succ, List.getD_cons_zero, List.getD_cons_succ, frzS, frz1, wipeS, List.modify_zero_cons, List.modify_succ_cons, Bool.true_eq_false, Bool.false_eq_true, if_true, if_false, ite_true, ite_false, reduceIte, List.replicate, Nat.add_zero, Nat.zero_add, if_pos, Nat.one_ne_zero, Nat.reduceEqDiff, reduceCtorEq, decide_eq_true_eq, eqD, eqDs, ty_beq, decide_true, decide_false, Bool.not_true, Bool.not_false, wps_cons, wps_nil, List.map_cons, List.map_nil, List.cons_append, List.nil_append, Bool.and_true, Bool.true_and, Bool.and_false, Bool.false_and, not_true_eq_false, not_false_eq_true, List.length_cons, List.length_nil, at_0, at_1, at_2, at_3, hi]
    refine ⟨_, rfl, by omega, by omega, fun d B' h0 h1 => ?_⟩
    obtain ⟨y, e, hy⟩ := at_ h0 h1
    show bnd (L2.atI _ d) _
    rw [e, bnd_some]
    exact h y hy B'
theorem pick_mono : ∀ ds B (Q Q' : D → Bag → Prop), (∀ d B, Q d B → Q' d B) → semPick ds B Q → semPick ds B Q' := fun ds B Q Q' h ⟨x, xs, e, a, b, l, c⟩ => ⟨x, xs, e, a, b, l, fun d hd B' => h _ _ (c d hd B')⟩
def irSame (i : Nat) : List S := [(.ite (.isi .tuple (.bor 1))
  [(.ite (.or (.nt (.isi .tuple (.bor 0))) (.cmp .ne (.bi .len [(.bor 0)]) (.bi .len [(.bor 1)])))
  [(.ret (.bl false))]
  []),
  (.ret (.bi .all [(.lc .zip [(.bor 0), (.bor 1)] (.tp [(.nm 2), (.nm 3)]) [2, 3] (.bl true) (.call i [(.var 2), (.var 3)]))]))]
  []),
  (.ite (.cmp .isN (.bor 1) .non)
  [(.ret (.cmp .isN (.bor 0) .non))]
  []),
  (.ite (.isi .bool (.bor 1))
  [(.ret (.an (.isi .bool (.bor 0)) (.cmp .eq (.bor 0) (.bor 1))))]
  []),
  (.ite (.isi .str (.bor 1))
  [(.ret (.an (.isi .str (.bor 0)) (.cmp .eq (.bor 0) (.bor 1))))]
  []),
  (.ret (.an (.isi .int (.bor 0)) (.an (.nt (.isi .bool (.bor 0))) (.cmp .eq (.bor 0) (.bor 1)))))]
/-! values that «same» reads: tuples of such, at most n deep, None, bools, texts, ints -/
mutual
def sok : D → Nat → Bool
  | .non, _ => true
  | .bl _, _ => true
  | .int _, _ => true
  | .str x, _ => okStr x
  | .tup xs, n => match n with | 0 => false | n + 1 => soks xs n
  | .lst _, _ => false
  | .dic _ _, _ => false
  | .bag, _ => false
def soks : List D → Nat → Bool
  | [], _ => true
  | x :: xs, n => sok x n && soks xs n
end
theorem soks_mem : ∀ {xs : List D} {n : Nat}, soks xs n = true → ∀ x ∈ xs, sok x n = true
  | [], _, _, _, h => nomatch h
  | y :: ys, n, h, x, hx => by
    unfold soks at h
    rw [Bool.and_eq_true] at h
    rcases List.mem_cons.mp hx with rfl | hx
    · exact h.1
    · exact soks_mem h.2 x hx
/-- the same twice -/
def semSame (k : Nat) : Sm := fun ds B Q => ∃ x, ds = [x, x] ∧ sok x k = true ∧ Q (.bl true) B
theorem zip_self : ∀ {xs : List D} {d : D}, d ∈ zipD xs xs → ∃ x ∈ xs, d = .tup [x, x]
  | [], d, h => nomatch h
  | x :: xs, d, h => by
    rw [zipD] at h
    rcases List.mem_cons.mp h with rfl | h
    · exact ⟨x, List.mem_cons_self .., rfl⟩
    · obtain ⟨y, hy, e⟩ := zip_self h
      exact ⟨y, List.mem_cons_of_mem _ hy, e⟩
theorem same_wp {Γ : Gm} {i k : Nat} (G : GMono Γ) (hi : ∀ j, k = j + 1 → Γ i = semSame j) {ds : List D} {B : Bag} {Q : D → Bag → Prop} (h : semSame k ds B Q) : wpFn Γ 4 (irSame i) ds B Q := by
  obtain ⟨x, rfl, hx, q⟩ := h
  unfold wpFn irSame
  cases x with
  | non => simpa only [s_asg, s_asgO, s_unp, s_par, s_app, s_ext, s_seti, s_ex, s_ite, s_ret, s_retN, s_brk, s_cnt, s_pas, s_nvr, s_frz, s_mov, s_bpop, s_bset, wpE, wpEs, getV, getB, getO, bnd_some, tst_bl, binD, addD, subD, mulD, int2, cmpD, ordD, biD, one, extD, atD, bindT, bindTs, parT, ownS, iterD, itemsOf, partD, absE, sliD, revD, isTy, isNon, permD, List.set_cons_zero, List.set_cons_succ, List.getD_cons_zero, List.getD_cons_succ, frzS, frz1, wipeS, List.modify_zero_cons, List.modify_succ_cons, Bool.true_eq_false, Bool.false_eq_true, if_true, if_false, ite_true, ite_false, reduceIte, List.replicate, Nat.add_zero, Nat.zero_add, if_pos, Nat.one_ne_zero, Nat.reduceEqDiff, reduceCtorEq, decide_eq_true_eq, eqD, eqDs, ty_beq, decide_true, decide_false, Bool.not_true, Bool.not_false, wps_cons, wps_nil, List.map_cons, List.map_nil, List.cons_append, List.nil_append, Bool.and_true, Bool.true_and, Bool.and_false, Bool.false_and, not_true_eq_false, not_false_eq_true, List.length_cons, List.length_nil, at_0, at_1, at_2, at_3] using q
  | bl b => 
    simp only [s_asg, s_asgO, s_unp, s_par, s_app, s_ext, s_seti, s_ex, s_ite, s_ret, s_retN, s_brk, s_cnt, s_pas, s_nvr, s_frz, s_mov, s_bpop, s_bset, wpE, wpEs, getV, getB, getO, bnd_some, tst_bl, binD, addD, subD, mulD, int2, cmpD, ordD, biD, one, extD, atD, bindT, bindTs, parT, ownS, iterD, itemsOf, partD, absE, sliD, revD, isTy, isNon, permD, List.set_cons_zero, List.set_cons_succ, List.getD_cons_zero, List.getD_cons_succ, frzS, frz1, wipeS, List.modify_zero_cons, List.modify_succ_cons, Bool.true_eq_false, Bool.false_eq_true, if_true, if_false, ite_true, ite_false, reduceIte, List.replicate, Nat.add_zero, Nat.zero_add, if_pos, Nat.one_ne_zero, Nat.reduceEqDiff, reduceCtorEq, decide_eq_true_eq, eqD, eqDs, ty_beq, decide_true, decide_false, Bool.not_true, Bool.not_false, wps_cons, wps_nil, List.map_cons, List.map_nil, List.cons_append, List.nil_append, Bool.and_true, Bool.true_and, Bool.and_false, Bool.false_and, not_true_eq_false, not_false_eq_true, List.length_cons, List.length_nil, at_0, at_1, at_2, at_3]
    cases b <;> exact ⟨⟨rfl, rfl⟩, q⟩
  | int n =>
    simp only [s_asg, s_asgO, s_unp, s_par, s_app, s_ext, s_seti, s_ex, s_ite, s_ret, s_retN, s_brk, s_cnt, s_pas, s_nvr, s_frz, s_mov, s_bpop, s_bset, wpE, wpEs, getV, getB, getO, bnd_some, tst_bl, binD, addD, subD, mulD, int2, cmpD, ordD, biD, one, extD, atD, bindT, bindTs, parT, ownS, iterD, itemsOf, partD, absE, sliD, revD, isTy, isNon, permD, List.set_cons_zero, List.set_cons_succ, List.getD_cons_zero, List.getD_cons_succ, frzS, frz1, wipeS, List.modify_zero_cons, List.modify_succ_cons, Bool.true_eq_false, Bool.false_eq_true, if_true, if_false, ite_true, ite_false, reduceIte, List.replicate, Nat.add_zero, Nat.zero_add, if_pos, Nat.one_ne_zero, Nat.reduceEqDiff, reduceCtorEq, decide_eq_true_eq, eqD, eqDs, ty_beq, decide_true, decide_false, Bool.not_true, Bool.not_false, wps_cons, wps_nil, List.map_cons, List.map_nil, List.cons_append, List.nil_append, Bool.and_true, Bool.true_and, Bool.and_false, Bool.false_and, not_true_eq_false, not_false_eq_true, List.length_cons, List.length_nil, at_0, at_1, at_2, at_3]
    exact ⟨⟨rfl, rfl⟩, q⟩
  | str z =>
    simp only [s_asg, s_asgO, s_unp, s_par, s_app, s_ext, s_seti, s_ex, s_ite, s_ret, s_retN, s_brk, s_cnt, s_pas, s_nvr, s_frz, s_mov, s_bpop, s_bset, wpE, wpEs, getV, getB, getO, bnd_some, tst_bl, binD, addD, subD, mulD, int2, cmpD, ordD, biD, one, extD, atD, bindT, bindTs, parT, ownS, iterD, itemsOf, partD, absE, sliD, revD, isTy, isNon, permD, List.set_cons_zero, List.set_cons_succ, List.getD_cons_zero, List.getD_cons_succ, frzS, frz1, wipeS, List.modify_zero_cons, List.modify_succ_cons, Bool.true_eq_false, Bool.false_eq_true, if_true, if_false, ite_true, ite_false, reduceIte, List.replicate, Nat.add_zero, Nat.zero_add, if_pos, Nat.one_ne_zero, Nat.reduceEqDiff, reduceCtorEq, decide_eq_true_eq, eqD, eqDs, ty_beq, decide_true, decide_false, Bool.not_true, Bool.not_false, wps_cons, wps_nil, List.map_cons, List.map_nil, List.cons_append, List.nil_append, Bool.and_true, Bool.true_and, Bool.and_false, Bool.false_and, not_true_eq_false, not_false_eq_true, List.length_cons, List.length_nil, at_0, at_1, at_2, at_3]
    unfold sok at hx
    exact ⟨⟨hx, hx⟩, q⟩
  | tup xs =>
    cases k with
    | zero => simp [sok] at hx
    | succ k =>
      have hg := hi k rfl
      simp only [s_asg, s_asgO, s_unp, s_par, s_app, s_ext, s_seti, s_ex, s_ite, s_ret, s_retN, s_brk, s_cnt, s_pas, s_nvr, s_frz, s_mov, s_bpop, s_bset, wpE, wpEs, getV, getB, getO, bnd_some, tst_bl, binD, addD, subD, mulD, int2, cmpD, ordD, biD, one, extD, atD, bindT, bindTs, parT, ownS, iterD, itemsOf, partD, absE, sliD, revD, isTy, isNon, permD, List.set_cons_zero, List.set_cons_succ, List.getD_cons_zero, List.getD_cons_succ, frzS, frz1, wipeS, List.modify_zero_cons, List.modify_succ_cons, Bool.true_eq_false, Bool.false_eq_true, if_true, if_false, ite_true, ite_false, reduceIte, List.replicate, Nat.add_zero, Nat.zero_add, if_pos, Nat.one_ne_zero, Nat.reduceEqDiff, reduceCtorEq, decide_eq_true_eq, eqD, eqDs, ty_beq, decide_true, decide_false, Bool.not_true, Bool.not_false, wps_cons, wps_nil, List.map_cons, List.map_nil, List.cons_append, List.nil_append, Bool.and_true, Bool.true_and, Bool.and_false, Bool.false_and, not_true_eq_false, not_false_eq_true, List.length_cons, List.length_nil, at_0, at_1, at_2, at_3]
      refine ⟨⟨rfl, rfl⟩, lcL_map (g := fun _ => [.bl true]) (fun x hx2 B K hK => ?_) ⟨(zipD xs xs).map fun _ => true, ?_, ?_⟩⟩
      · obtain ⟨y, hy, rfl⟩ := zip_self hx2
        simp only [s_asg, s_asgO, s_unp, s_par, s_app, s_ext, s_seti, s_ex, s_ite, s_ret, s_retN, s_brk, s_cnt, s_pas, s_nvr, s_frz, s_mov, s_bpop, s_bset, wpE, wpEs, getV, getB, getO, bnd_some, tst_bl, binD, addD, subD, mulD, int2, cmpD, ordD, biD, one, extD, atD, bindT, bindTs, parT, ownS, iterD, itemsOf, partD, absE, sliD, revD, isTy, isNon, permD, List.set_cons_zero, List.set_cons_succ, List.getD_cons_zero, List.getD_cons_succ, frzS, frz1, wipeS, List.modify_zero_cons, List.modify_succ_cons, Bool.true_eq_false, Bool.false_eq_true, if_true, if_false, ite_true, ite_false, reduceIte, List.replicate, Nat.add_zero, Nat.zero_add, if_pos, Nat.one_ne_zero, Nat.reduceEqDiff, reduceCtorEq, decide_eq_true_eq, eqD, eqDs, ty_beq, decide_true, decide_false, Bool.not_true, Bool.not_false, wps_cons, wps_nil, List.map_cons, List.map_nil, List.cons_append, List.nil_append, Bool.and_true, Bool.true_and, Bool.and_false, Bool.false_and, not_true_eq_false, not_false_eq_true, List.length_cons, List.length_nil, at_0, at_1, at_2, at_3, List.set, hg]
        unfold sok at hx
        exact ⟨y, rfl, soks_mem hx y hy, hK⟩
      · congr 1
        rw [List.map_map]
        induction zipD xs xs with
        | nil => rfl
        | cons y ys ih => rw [List.flatMap_cons, ih]; rfl
      · have e : ((zipD xs xs).map fun _ => true).all id = true := by simp
        rw [e]
        exact q
  | lst xs => simp [sok] at hx
  | dic ks vs => simp [sok] at hx
  | bag => simp [sok] at hx
theorem draw_at {n : Int} {B : Bag} {Q : D → Bag → Prop} (h0 : 0 < n) (h1 : n < 1000000000000) (h : ∀ (d : Int) (B' : Bag), 0 ≤ d → d < n → Q (.int d) B') : semDraw [.bag, .int n] B Q := ⟨n, rfl, h0, h1, h⟩
theorem pickL_at {xs : List D} {B : Bag} {Q : D → Bag → Prop} (h0 : xs ≠ []) (h1 : xs.length ≤ 1000000) (h : ∀ d ∈ xs, ∀ B', Q d B') : semPick [.bag, .lst xs] B Q := ⟨_, xs, rfl, rfl, h0, h1, h⟩
theorem pickT_at {xs : List D} {B : Bag} {Q : D → Bag → Prop} (h0 : xs ≠ []) (h1 : xs.length ≤ 1000000) (h : ∀ d ∈ xs, ∀ B', Q d B') : semPick [.bag, .tup xs] B Q := ⟨_, xs, rfl, rfl, h0, h1, h⟩
theorem same_at {k : Nat} {a b : D} {B : Bag} {Q : D → Bag → Prop} (e : a = b) (h : sok b k = true) (q : Q (.bl true) B) : semSame k [a, b] B Q := by subst e; exact ⟨a, rfl, h, q⟩
theorem soks_ints : ∀ (ns : List Int) (k : Nat), soks (ns.map D.int) k = true
  | [], _ => rfl
  | n :: ns, k => by simp [soks, sok, soks_ints ns k]
theorem same_mono (k : Nat) : ∀ ds B (Q Q' : D → Bag → Prop), (∀ d B, Q d B → Q' d B) → semSame k ds B Q → semSame k ds B Q' := fun ds B Q Q' h ⟨x, e, a, q⟩ => ⟨x, e, a, h _ _ q⟩
end TL


set_option autoImplicit false
/-! list(reversed(a list)). -/
namespace TL
open PySem PySem.Spec PyProof.Rows
section
variable {prog : Program} {w : World} {A : Around} {E : Value → Shared → Prop} {s : Shared}
theorem extend_rev {it l S : Addr} {items : Array Value} {R : Result → Shared → Prop} (hh : A.handled = none) (hit : s.heap.IsRevIter it l ((items.size : Int) - 1)) (hl : s.heap.IsList l items) (hne : l ≠ it) (hSi : S ≠ it) (hSl : S ≠ l) (hn : items.size ≤ sizeLine) (res : Value) (c₀ : Nat)
    (hS : s.heap.get? S = some { cls := .type "list", data := .seq #[] c₀ })
    (hR : ∀ (h' : Heap) (tk : Nat) (acc : Array Value) (c' : Nat), (∀ b o, b ≠ S → b ≠ it → s.heap.get? b = some o → h'.get? b = some o) → h'.get? S = some { cls := .type "list", dict := none, data := .seq acc c', slots := #[] } →
      ItemsOf (fun i v => items[items.size - 1 - i]? = some v) acc items.size → R (.ok (.ret res)) { s with heap := h', toks := tk }) :
    wpAny (model prog w) A.in1 (Builtin.List.listExtendWith (.ref S) (.ref it) res)
      (fun fin s' => match fin with | .done f => R (.ok f) s' | .again c' => c'.quiet = true ∧ codeAny (model prog w) A c' R s') (fun e s' => R (.error e) s') s := by
  have W := (Walks.listRev (prog := prog) (w := w) (A := A.in1) hh it l hne items).toS
  have hSf : S ∉ [it, l] := by simp only [List.mem_cons, List.not_mem_nil, or_false, not_or]; exact ⟨hSi, hSl⟩
  have hT : s.TypeIs (.ref it) "list_reverseiterator" := Heap.IsRevIter.typeIs hit
  have h1 : Builtin.List.listSameRef (.ref S) (.ref it) = false := by simp [Builtin.List.listSameRef, hSi]
  unfold Builtin.List.listExtendWith
  refine wpAny_bind (wpAny_typeOf hT ?_)
  rw [if_neg (by rw [h1]; decide)]
  refine wpAny_bind (wpAny_pyIter_revIter hit ?_)
  refine wpAny_bind (wpAny_holding ?_)
  unfold Builtin.List.listLengthHint
  refine wpAny_bind (wpAny_specialOf hT RT.nolen_lri ?_)
  show wpAny _ A.in1 (specialOf (Value.ref it) (Str.ofString "__length_hint__") >>= _) _ _ _
  refine wpAny_bind (wpAny_specialOf hT RT.hint_lri ?_)
  generalize hid : ("list_reverseiterator.__length_hint__" : String) = id0
  wp_delta
  rw [show splitId id0 = some ("list_reverseiterator", "__length_hint__") from by subst hid; decide +kernel]
  subst hid
  refine wpAny_bind (wpAny_isInstance (b := true) hT (by rw [isSubtype_type]; kernel_rfl) ?_)
  refine wpAny_pure ?_
  rw [if_neg (by decide)]
  have e0 : ((items.size : Nat) : Int) - 1 - ((0 : Nat) : Int) = (items.size : Int) - 1 := by omega
  refine wpAny_pure ⟨plainId_quiet F.plain_extend_loop _, codeAny_extend_loopS W hn _ hSf _ items.size 0 _ _ _ rfl (Nat.zero_le _) ⟨Nat.zero_le _, by rw [e0]; exact hit, hl⟩ hS (ItemsOf.nil _) fun s' acc' c' hm hS' hacc => ?_⟩
  rw [Moved.eq_with hm]
  refine hR s'.heap s'.toks acc' c' (fun b o hb hb2 e => hm.heap b o (fun hmem => ?_) e) hS' hacc
  rcases List.mem_cons.mp hmem with e' | hmem
  · exact hb e'
  · exact hb2 (List.mem_singleton.mp hmem)
theorem list_init_rev {it l S : Addr} {items : Array Value} {R : Result → Shared → Prop} (hh : A.handled = none) (hit : s.heap.IsRevIter it l ((items.size : Int) - 1)) (hl : s.heap.IsList l items) (hne : l ≠ it) (hSi : S ≠ it) (hSl : S ≠ l) (hn : items.size ≤ sizeLine)
    (hS : s.heap.get? S = some { cls := .type "list", data := .seq #[] })
    (hR : ∀ (h' : Heap) (tk : Nat) (acc : Array Value) (c' : Nat), (∀ b o, b ≠ S → b ≠ it → s.heap.get? b = some o → h'.get? b = some o) → h'.get? S = some { cls := .type "list", dict := none, data := .seq acc c', slots := #[] } →
      ItemsOf (fun i v => items[items.size - 1 - i]? = some v) acc items.size → R (.ok (.ret .none)) { s with heap := h', toks := tk }) :
    wpAny (model prog w) A.in1 (Builtin.«list.__init__» ⟨[.ref S, .ref it], []⟩)
      (fun fin s' => match fin with | .done f => R (.ok f) s' | .again c' => c'.quiet = true ∧ codeAny (model prog w) A c' R s') (fun e s' => R (.error e) s') s := by
  show wpAny _ _ (do let old ← Builtin.List.listItems (.ref S); Builtin.List.listUpdate (.ref S) (fun _ => #[]); letGo old.toList.reverse; Builtin.List.listExtendWith (.ref S) (.ref it) .none) _ _ s
  refine wpAny_bind ?_
  unfold Builtin.List.listItems
  refine wpAny_bind (wpAny_seqItems hS rfl (wpAny_pure ?_))
  show wpAny _ _ (updateSeq S (fun _ => #[]) >>= fun _ => letGo (#[] : Array Value).toList.reverse >>= fun _ => Builtin.List.listExtendWith (.ref S) (.ref it) .none) _ _ s
  refine wpAny_bind (wpAny_updateSeq hS rfl ?_)
  have hS₂ := Heap.get?_update_self (Obj.mapSeq (fun _ => (#[] : Array Value))) hS rfl
  have oth : ∀ b o, b ≠ S → s.heap.get? b = some o → (s.heap.update S (Obj.mapSeq (fun _ => (#[] : Array Value)))).get? b = some o :=
    fun b o hb e => (Heap.get?_update_other _ _ (Ne.symm hb)).trans e
  refine wpAny_bind (wpAny_letGo ?_)
  have hl2 : (s.heap.update S (Obj.mapSeq (fun _ => (#[] : Array Value)))).IsList l items := by
    obtain ⟨o, ho, hc, n, hd⟩ := hl
    exact ⟨o, oth _ _ (Ne.symm hSl) ho, hc, n, hd⟩
  refine extend_rev (s := { s with heap := s.heap.update S (Obj.mapSeq (fun _ => (#[] : Array Value))) }) hh (hit.at fun o e => oth _ _ (Ne.symm hSi) e) hl2 hne hSi hSl hn .none _ hS₂ fun h' tk acc c' hk hS' hacc => ?_
  exact hR h' tk acc c' (fun b o hb hb2 e => hk b o hb hb2 (oth b o hb e)) hS' hacc
theorem call_list_rev {it l : Addr} {items : Array Value} {Q : Value → Shared → Prop} (hh : A.handled = none) (hit : s.heap.IsRevIter it l ((items.size : Int) - 1)) (hl : s.heap.IsList l items) (hne : l ≠ it) (hn : items.size ≤ sizeLine)
    (hQ : ∀ (h' : Heap) (tk : Nat) (acc : Array Value) (c' : Nat), (∀ b o, b ≠ it → s.heap.get? b = some o → h'.get? b = some o) → h'.get? s.heap.objs.size = some { cls := .type "list", dict := none, data := .seq acc c', slots := #[] } →
      ItemsOf (fun i v => items[items.size - 1 - i]? = some v) acc items.size → Q (.ref s.heap.objs.size) { s with heap := h', toks := tk }) :
    wpAny (model prog w) A (call (.type "list") [.ref it]) Q E s := by
  obtain ⟨oi, hoi, _⟩ := id hit
  obtain ⟨ol, hol, _⟩ := id hl
  refine callType_codes (Q₁ := fun obj s₁ => obj = .ref s.heap.objs.size ∧ s₁ = { s with heap := s.heap.push { cls := .type "list", data := .seq #[] } }) F.called_list (F.typeCall_list_1 _) F.entry_list_init
    (code_list_new _ ⟨rfl, rfl⟩) fun obj s₁ h₁ => ?_
  obtain ⟨rfl, rfl⟩ := h₁
  have hS : (s.heap.push { cls := .type "list", data := .seq #[] }).get? s.heap.objs.size = some { cls := .type "list", data := .seq #[] } := Heap.get?_push_size _ rfl
  refine ⟨⟨_, hS, rfl⟩, F.args_list_init_2 _ _, list_init_rev (A := A.in1) (s := { s with heap := s.heap.push { cls := .type "list", data := .seq #[] } }) hh (hit.at fun o e => Heap.get?_push_of_some _ e) (hl.push _) hne (Nat.ne_of_gt (Heap.lt_size hoi)) (Nat.ne_of_gt (Heap.lt_size hol)) hn hS fun h' tk acc c' hk hS' hacc => ?_⟩
  exact ⟨rfl, hQ h' tk acc c' (fun b o hb e => hk b o (Nat.ne_of_lt (Heap.lt_size e)) hb (Heap.get?_push_of_some _ e)) hS' hacc⟩
end
open L2
def tListRev (K : PySem.W.Frag) (te : TE) : TE := fun σ H Q => te σ H fun v H1 => ∃ (a : Addr) (xs : List V), v = .ref a ∧ SqL K H1 a xs ∧ ∀ q, H1 q = none → Q (.ref q) (upd H1 q (.lst xs.reverse))
theorem pe_listRev {X : Cx} {e : Expr} {te : TE} {p p2 pos pos2 : Pos} (hc : X.calm = true) (hg : Gl X "list") (hm : X.mg "list" = none) (hg2 : Gl X "reversed") (hm2 : X.mg "reversed" = none) (he : PE X e te)
    (hs : starEach [e] X.env = (false, eval e X.env) :: starEach [] X.env := by rfl)
    (hs2 : starEach [.Call (.Name "reversed" p2) [e] [] pos2] X.env = (false, eval (.Call (.Name "reversed" p2) [e] [] pos2) X.env) :: starEach [] X.env := by rfl) :
    PE X (.Call (.Name "list" p) [.Call (.Name "reversed" p2) [e] [] pos2] [] pos) (tListRev X.K te) := by
  refine ⟨fun pins s σ H Q I h => ?_⟩
  refine Call_ (ld_blt I hg hm PyProof.Rows.boot_list (PyProof.Rows.callWith_type1 (args_cons (Call_ (ld_blt I hg2 hm2 PyProof.Rows.boot_reversed (PyProof.Rows.callWith_type1 (args_cons (thn (he.run pins s σ H _ I h) fun u s1 ⟨v, H1, I1, r1, q1⟩ => args_nil ?_) hs) hs rfl))) hs2) hs2 rfl))
  obtain ⟨a, xs, ev, hq, q⟩ := q1
  subst ev
  obtain rfl : u = Value.ref a := r1
  obtain ⟨its, rv, p', hz⟩ := I1.list hq
  refine call_reversed_list p'.isList (args_nil ?_)
  have k0 : ∀ b o, s1.heap.get? b = some o → (s1.heap.push (revObj a ((its.toArray.size : Int) - 1))).get? b = some o := fun b o e => Heap.get?_push_of_some _ e
  have I2 : Inv X pins σ H1 { s1 with heap := s1.heap.push (revObj a ((its.toArray.size : Int) - 1)) } := I1.kept (t' := s1.toks) k0
  obtain ⟨f0, f1, f2, f3, f4, f5⟩ := I1.fpOk (H' := H1) (b := s1.heap.objs.size) (Nat.le_refl _) (I1.hok.fresh (Nat.le_refl _))
  have hl := p'.isList
  obtain ⟨ol, hol, _⟩ := id hl
  have hne : a ≠ s1.heap.objs.size := Nat.ne_of_lt (Heap.lt_size hol)
  have hn : its.toArray.size ≤ sizeLine := by rw [List.size_toArray, ← rv.length]; exact hz
  refine call_list_rev (s := { s1 with heap := s1.heap.push (revObj a ((its.toArray.size : Int) - 1)) }) (I1.ok.hd hc) ⟨_, Heap.get?_push_size _ rfl, rfl, rfl⟩ (hl.push _) hne hn fun h' tk acc c' hk hS hi => ?_
  have hp : s1.heap.objs.size ≤ (s1.heap.push (revObj a ((its.toArray.size : Int) - 1))).objs.size := by rw [Heap.size_push]; exact Nat.le_succ _
  refine ⟨.ref (s1.heap.push (revObj a ((its.toArray.size : Int) - 1))).objs.size, upd H1 (s1.heap.push (revObj a ((its.toArray.size : Int) - 1))).objs.size (.lst xs.reverse),
    I1.laid (t' := tk) (fun b o e => hk b o (Nat.ne_of_lt (Heap.lt_size e)) (k0 b o e)) hp (show ObjOk X.prog X.w _ _ _ (.lst xs.reverse) from ⟨by rw [List.length_reverse]; exact hz, acc.toList, c', RT.vals_rev rv hi, ?_⟩), rfl, q _ (I1.hok.fresh hp)⟩
  rw [Array.toArray_toList]
  exact hS
end TL


set_option autoImplicit false
/-! The tree layer, part 16: the laws' own bag. -/
namespace TL
open PySem PySem.Spec PyProof.Rows L2
def spBag (K : PySem.W.Frag) : Sp := fun vs H Q _ => ∃ (a : Addr) (ns : List Int), vs = [.ref a] ∧ SqL K H a (ns.map V.int) ∧ ns.length ≤ 63 ∧ ∀ H' a0 a1 (B : Bag), BagAt a0 a1 B H' → Q (.ref a0) H'
/-- what the bag's def reads as -/
def tBag (K : PySem.W.Frag) (c : Int) : TS :=
  tSeq (tAsg (tLc (iList K (L2.tSl (rSlL K) (tVar 0) tNoPart (tPart (tC (V.int 63))))) (gName 3) tYes
      (tOp (rI (fun _ j => 0 < j) fun i j => V.int (i % j)) (tCB (fun xs H Q => ∃ i, xs = [V.int i] ∧ Q (V.int (if i < 0 then -i else i)) H) (tCons (tVar 3) tNil)) (tOp (rI CPow fun i j => V.int (i * 2 ^ j.toNat)) (tC (V.int 1)) (tC (V.int 2000)))) [3]) (gName 1))
    (tSeq (tAsg (tOp (rI0 fun i j => V.int (i + j)) (tC (V.int c)) (tCB (fun xs H_1 Q => ∃ p ys, xs = [V.ref p] ∧ (SqL K H_1 p ys ∨ SqT K H_1 p ys) ∧ Q (V.int ys.length) H_1) (tCons (tVar 1) tNil))) (gName 2))
      (tSeq (tFor (iList K (tVar 1)) (gName 3) (tAsg (tOp (rI (fun _ j => 0 < j) fun i j => V.int (i % j)) (tOp (rI0 fun i j => V.int (i + j)) (tOp (rI0 fun i j => V.int (i + j)) (tOp (rI mulOk fun i j => V.int (i * j)) (tVar 2) (tC (V.int 48271)))
            (tOp (rI (fun _ j => 0 < j) fun i j => V.int (i % j)) (tVar 3) (tC (V.int 2147483629)))) (tC (V.int 7))) (tC (V.int 2147483647))) (gName 2)))
        (tRet (tLst (tCons (tListRev K (tCB (fun xs H_1 Q => ∃ p ys, xs = [V.ref p] ∧ (SqL K H_1 p ys ∨ SqT K H_1 p ys) ∧ ∀ (l : Addr), H_1 l = none → Q (V.ref l) (upd H_1 l (HO.lst ys))) (tCons (tVar 1) tNil)))
          (tCons (tC (V.int 0)) (tCons (tVar 2) tNil)))))))
theorem bag_read {K : PySem.W.Frag} {c : Int} (hc : 0 ≤ c ∧ c < 1000000) {a : Addr} {ns : List Int} {H : Hp} {Q : VK} (hS : SqL K H a (ns.map V.int)) (hl : ns.length ≤ 63) (q : ∀ H' a0 a1 (B : Bag), BagAt a0 a1 B H' → Q (.ref a0) H') :
    tBag K c { nx := fun _ H' => Q .non H', rt := Q } [some (.ref a), none, none, none] H := by
  have hcut : cutV (ns.map V.int) none (some 63) = (cutV (ns.map V.int) none (some 63)) := rfl
  obtain ⟨ms, hms, hml⟩ : ∃ ms : List Int, cutV (ns.map V.int) none (some 63) = ms.map V.int ∧ ms.length ≤ 63 := by
    unfold cutV
    refine ⟨(ns.drop _).take _, by rw [List.map_take, List.map_drop], ?_⟩
    rw [List.length_take, List.length_drop]
    omega
  have h63 : (63 : Nat) < sizeLine := by decide
  -- the slice
  refine ⟨.ref a, rfl, 63, rfl, a, _, rfl, hS, fun p np => ⟨p, rfl, ⟨_, SqL.of upd_same⟩, fun d nd => ?_⟩⟩
  rw [hms] at nd ⊢
  have hpd : p ≠ d := fun e => by rw [← e, upd_same] at nd; cases nd
  -- cells = [..]
  refine lc_list (K := K) (a := p) (xs := ms.map V.int) (fun i H' => H' p = some (.lst (ms.map V.int)) ∧ ∃ cs : List Int, cs.length = i ∧ i ≤ 63 ∧ H' d = some (.lst (cs.map V.int))) ⟨by rw [upd_ne hpd, upd_same], [], rfl, by decide, upd_same⟩ (fun i H' _ h => SqL.of h.1) (fun i x H' hx h => ?_) fun H' h => ?_
  · obtain ⟨hp, cs, rfl, _, hd⟩ := h
    rw [List.getElem?_map] at hx
    cases hm : ms[cs.length]? with
    | none => rw [hm] at hx; cases hx
    | some m =>
      rw [hm] at hx
      cases hx
      have hlt := (List.getElem?_eq_some_iff.mp hm).1
      refine ⟨rfl, ?_⟩
      rw [show (tYes ((wipe [some (V.ref a), none, none, none] [3]).set 3 (some (V.int m))) H' = fun Q => Q true H') from rfl]
      refine ⟨.int m, rfl, m, rfl, 1, 2000, rfl, rfl, ⟨by decide, by decide, by decide⟩, _, _, rfl, rfl, (show (0 : Int) < 1 * 2 ^ Int.toNat 2000 from by rw [Int.one_mul]; exact Int.pow_pos (by decide)), cs.map V.int, hd, by rw [List.length_map]; omega, by rw [upd_ne hpd]; exact hp, cs ++ [(if m < 0 then -m else m) % (1 * 2 ^ Int.toNat 2000)], by rw [List.length_append, List.length_singleton], by omega, ?_⟩
      rw [upd_same, List.map_append]
      rfl
  · obtain ⟨hp, cs, hcl, _, hd⟩ := h
    rw [List.length_map] at hcl
    -- mixed = c + len(cells)
    refine ⟨.ref d, rfl, d, _, rfl, .inl (SqL.of hd), ?_⟩
    refine ⟨c, _, rfl, rfl, ?_⟩
    -- for cell in cells
    refine ⟨.ref d, rfl, d, rfl, ⟨_, SqL.of hd⟩, ?_⟩
    refine for_list (xs := cs.map V.int) (fun i σ H2 => H2 d = some (.lst (cs.map V.int)) ∧ ∃ (m : Int) (x : Option V), 0 ≤ m ∧ m < 2147483647 ∧ σ = [some (.ref a), some (.ref d), some (.int m), x]) ⟨hd, _, none, ?_, ?_, rfl⟩ (fun i σ H2 _ h => SqL.of h.1) (fun i x σ H2 hx h => ?_) fun σ H2 h => ?_
    · rw [List.length_map]; omega
    · rw [List.length_map]; omega
    · obtain ⟨hd2, m, y, h0, h1, rfl⟩ := h
      rw [List.getElem?_map] at hx
      cases hm : cs[i]? with
      | none => rw [hm] at hx; cases hx
      | some e =>
        rw [hm] at hx
        cases hx
        refine ⟨.int m, rfl, m, 48271, rfl, rfl, mulOk_r (by decide), .int e, rfl, e, 2147483629, rfl, rfl, (show (0 : Int) < 2147483629 from by decide), _, _, rfl, rfl, _, 7, rfl, rfl, _, 2147483647, rfl, rfl, (show (0 : Int) < 2147483647 from by decide), hd2, _, _, Int.emod_nonneg _ (by decide), Int.emod_lt_of_pos _ (by decide), rfl⟩
    · obtain ⟨hd2, m, y, h0, h1, rfl⟩ := h
      refine ⟨.ref d, rfl, d, _, rfl, .inl (SqL.of hd2), fun l nl => ⟨l, _, rfl, SqL.of upd_same, fun q1 nq => ?_⟩⟩
      refine ⟨.int m, rfl, by show 3 ≤ sizeLine; decide, fun q0 nq0 => ?_⟩
      have h10 : q1 ≠ q0 := fun e => by rw [← e, upd_same] at nq0; cases nq0
      refine q _ q0 q1 ⟨cs.reverse, 0, m, h0, h1⟩ ⟨upd_same, ?_⟩
      rw [upd_ne h10, upd_same, List.map_reverse]
end TL


set_option autoImplicit false
/-! The tree layer, part 17: from the defs to the law. -/
namespace TL
open PySem PySem.Spec PyProof.Rows L2
section
variable {P : Program} {w : World} {K : PySem.W.Frag} {mg : Str → Option Value} {base : Heap}
/-- a def's facts behind the top -/
def DefAt (K : PySem.W.Frag) (x : Str) (st : Stmt) : Prop := ∃ (f : Addr) (oc : Value) (od an : Option Addr) (sl : Array (Option Value)) (kV dc pm cd ct : Value),
  PySem.W.nsIn K mainGlobals x = some (some (.ref f)) ∧ K.lookup f = some ⟨oc, od, .func (PySem.W.fnOf x x (defArgs st) (defBody st) (defScope st) .none kV dc pm an cd ct), sl⟩ ∧ PySem.W.codeIn K cd x = true ∧ PySem.W.keepIn K (.ref f) = true
def DefM (K : PySem.W.Frag) (mg : Str → Option Value) (x : Str) (st : Stmt) : Prop := ∃ f fd, Fun K x x st f fd ∧ mg x = some (.ref f)
theorem DefAt.m {h : Heap} {x : Str} {st : Stmt} (X : K.In h) (G : h.Ns mainGlobals mg) (d : DefAt K x st) : DefM K mg x st := by
  obtain ⟨f, oc, od, an, sl, kV, dc, pm, cd, ct, a, l, c, k⟩ := d
  exact ⟨f, _, fun_mk l c k, PySem.W.mg_of X G a⟩
theorem DefAt.by {x : Str} {st : Stmt} {f : Addr} {oc : Value} {od an : Option Addr} {sl : Array (Option Value)} {kV dc pm cd ct : Value} (a : PySem.W.nsIn K mainGlobals x = some (some (.ref f)))
    (l : K.lookup f = some ⟨oc, od, .func (PySem.W.fnOf x x (defArgs st) (defBody st) (defScope st) .none kV dc pm an cd ct), sl⟩) (c : PySem.W.codeIn K cd x = true) (k : PySem.W.keepIn K (.ref f) = true) : DefAt K x st := ⟨f, oc, od, an, sl, kV, dc, pm, cd, ct, a, l, c, k⟩
def IntAt (K : PySem.W.Frag) (x : Str) (v : Int) : Prop := ∃ t, PySem.W.nsIn K mainGlobals x = some (some (.int v t))
theorem IntAt.by {x : Str} {v : Int} {t : Tok} (a : PySem.W.nsIn K mainGlobals x = some (some (.int v t))) : IntAt K x v := ⟨t, a⟩
theorem ix_by {fs : List Fn} (h : ((List.range fs.length).all fun i => match fs[i]? with | some u => u.i == i | none => true) = true) : ∀ (i : Nat) (u : Fn), fs[i]? = some u → u.i = i := fun i u e => by
  have hi : i < fs.length := (List.getElem?_eq_some_iff.mp e).1
  have := List.all_eq_true.mp h i (List.mem_range.mpr hi)
  rw [e] at this
  exact eq_of_beq this
theorem fs_by {p : Pg} (h : ∀ (i : Nat) (t : Fn), p.fs[i]? = some t → ∃ f fd, There K mg t f fd) : ∀ t ∈ p.fs, ∃ f fd, There K mg t f fd := fun t ht => by
  obtain ⟨i, e⟩ := List.getElem?_of_mem ht
  exact h i t e
/-- one def more, from its facts -/
theorem all_fn {p : Pg} {Γ : Gm} {m k : Nat} {t : Fn} {x : Str} {st : Stmt} {s : Sg} {ir : List S} (G : GMono Γ) (gb : Glob P w K mg base p) (all : AllK P w K mg base k p (cut m Γ)) (d : DefM K mg x st) (ht : p.fs[m]? = some t) (hi : ∀ (i : Nat) (u : Fn), p.fs[i]? = some u → u.i = i) (hx : t.x = x)
    (hb : ∀ {f : Addr} {fd : FuncData}, Fun K x x st f fd → Binds K fd t.ps [] ∧ ∀ q ∈ t.kw, KwB K fd t.ps q.1 q.2.1 q.2.2) (S : FnScope s.N t.ps (defScope st)) (ok : SgOk s) (hs : s.sc = defScope st)
    (j : ∀ {X : Cx}, Wd X k s p (cut m Γ) → JSs X (cut m Γ) (defBody st) ir) (h : ∀ ds B Q, ds.length = t.ps.length → Γ m ds B Q → wpFn (cut m Γ) s.N.length ir ds B Q) : AllK P w K mg base (k + 1) p (cut (m + 1) Γ) := by
  obtain ⟨f, fd, F, hm⟩ := d
  subst hx
  exact all_step (Nat.le_succ _) all ht hi ⟨hm, F.kp, (hb F).1, (hb F).2⟩ (fn_ok F S ok hs gb (cut_mono G) all j h)
/-- «same», down to its depth -/
theorem all_same {p : Pg} {Γ : Gm} {m k n : Nat} {t : Fn} {x : Str} {st : Stmt} {s : Sg} (G : GMono Γ) (gb : Glob P w K mg base p) (all : AllK P w K mg base k p (cut m Γ)) (d : DefM K mg x st) (ht : p.fs[m]? = some t) (hi : ∀ (i : Nat) (u : Fn), p.fs[i]? = some u → u.i = i) (hx : t.x = x)
    (hb : ∀ {f : Addr} {fd : FuncData}, Fun K x x st f fd → Binds K fd t.ps [] ∧ ∀ q ∈ t.kw, KwB K fd t.ps q.1 q.2.1 q.2.2) (S : FnScope s.N t.ps (defScope st)) (ok : SgOk s) (hs : s.sc = defScope st) (hl : t.ps.length = 2) (hN : s.N.length = 4)
    (j : ∀ {X : Cx} {k : Nat} {Γ : Gm}, Wd X k s p Γ → JSs X Γ (defBody st) (irSame m)) (hΓ : Γ m = semSame n) : AllK P w K mg base (k + n + 1) p (cut (m + 1) Γ) := by
  obtain ⟨f, fd, F, hm⟩ := d
  subst hx
  have th : There K mg t f fd := ⟨hm, F.kp, (hb F).1, (hb F).2⟩
  have go : ∀ q : Nat, FnOk P w K mg base CX0 (k + q + 1) f fd t.ps (spOf t.ps.length (semSame q)) := fun q => by
    induction q with
    | zero =>
      refine fn_ok F S ok hs gb (cut_mono G) (all) j fun ds B Q _ h => ?_
      rw [hN]
      exact same_wp (cut_mono G) (fun j e => absurd e (Nat.succ_ne_zero j).symm) h
    | succ q ih =>
      let Γ' : Gm := fun i => if i = m then semSame q else cut m Γ i
      have G' : GMono Γ' := fun i ds B Q Q' h u => by
        show (if i = m then semSame q else cut m Γ i) ds B Q'
        have u : (if i = m then semSame q else cut m Γ i) ds B Q := u
        by_cases e : i = m
        · rw [if_pos e] at u ⊢
          exact same_mono q _ _ _ _ h u
        · rw [if_neg e] at u ⊢
          exact cut_mono G i _ _ _ _ h u
      have all' : AllK P w K mg base (k + q + 1) p Γ' := fun u hu => by
        obtain ⟨i, e⟩ := List.getElem?_of_mem hu
        have ei := hi i u e
        by_cases h : i = m
        · subst h
          rw [ht] at e
          cases e
          have e1 : Γ' t.i = semSame q := if_pos ei
          rw [e1]
          exact ⟨f, fd, ih, th⟩
        · have e1 : Γ' u.i = cut m Γ u.i := if_neg (by rw [ei]; exact h)
          rw [e1]
          exact (all u hu).mono (by omega)
      have r := fn_ok (sem := semSame (q + 1)) F S ok hs gb G' all' j fun ds B Q _ h => by
        rw [hN]
        exact same_wp G' (fun j e => by
          cases e
          exact if_pos rfl) h
      exact r
  refine all_step (by omega) all ht hi th ?_
  rw [hΓ]
  exact go n

/-! ### the law -/
def spLaw (K : PySem.W.Frag) : Sp := fun vs H Q _ => ∃ (a : Addr) (ns : List Int), vs = [.ref a] ∧ SqL K H a (ns.map V.int) ∧ ns.length ≤ 63 ∧ ∀ H', Q (.bl true) H'
theorem law_sr {n : Nat} {a a0 a1 : Addr} {B : Bag} {H : Hp} (b : BagAt a0 a1 B H) : SR ⟨a0, a1, H, fun _ => False⟩ (fun _ => False) (Sl.no :: Sl.va .bag :: List.replicate n Sl.no) B (some (.ref a) :: some (.ref a0) :: List.replicate n none) H where
  w := ⟨b.1, b.2, fun h => h, fun h => h, fun _ h => h.elim⟩
  ext := fun _ _ h _ _ => h
  dm := fun _ h => h
  zn := fun _ h => .inl h
  zz := fun _ h => h
  len := by simp
  sl := fun i s e => by
    match i with
    | 0 => cases e; trivial
    | 1 =>
      cases e
      exact ⟨.ref a0, rfl, by unfold Rep; rfl⟩
    | i + 2 =>
      rw [List.getElem?_cons_succ, List.getElem?_cons_succ, List.getElem?_replicate] at e
      split at e
      · cases e; trivial
      · cases e
  inj := fun i j s t p e1 e2 o1 o2 q1 q2 => by
    match i with
    | 0 => cases e1; cases o1
    | 1 => cases e1; cases o1
    | i + 2 =>
      rw [List.getElem?_cons_succ, List.getElem?_cons_succ, List.getElem?_replicate] at e1
      split at e1
      · cases e1; cases o1
      · cases e1
theorem law_end {Γ : Gm} {n : Nat} {ir : List S} {a a0 a1 : Addr} {B : Bag} {H : Hp} {Q : VK} (G : GMono Γ) (b : BagAt a0 a1 B H) (h : wpSs Γ ir ⟨fun _ _ => False, fun d _ => d = .bl true, fun _ _ => False, fun _ _ => False⟩ (Sl.no :: Sl.va .bag :: List.replicate n Sl.no) B)
    (q : ∀ H', Q (.bl true) H') : trSs Γ ir { nx := fun _ H' => Q .non H', rt := Q } (some (.ref a) :: some (.ref a0) :: List.replicate n none) H :=
  ⟨_, _, _, B, law_sr b, wpSs_mono G ir ⟨fun _ _ => False, fun d _ => d = .bl true, fun _ _ => False, fun _ _ => False⟩ _ _ _ ⟨fun _ _ k => k.elim, fun d B k z' σa σ H' v _ _ r => by
    subst k
    rw [r.bl]
    exact q H', fun _ _ k => k.elim, fun _ _ k => k.elim⟩ h⟩
end
end TL


set_option autoImplicit false
namespace K72
open PySem PySem.Spec PyProof.Rows L2 TL
def topS (i : Nat) : Stmt := PySem.Challenge.pw_costsahead_k72_whole_dear_deeds_seldom.main.body.getD i (.Pass ⟨0, 0, 0, 0⟩)
def pg : Pg := ⟨[⟨0, "many_after", ["size", "deed"], [(0, ["deed", "size"], [1, 0])]⟩, ⟨1, "many_cost", ["size", "deed"], [(0, ["deed", "size"], [1, 0])]⟩, ⟨2, "many_run", ["size", "deeds"], [(0, ["deeds", "size"], [1, 0])]⟩, ⟨3, "many_most", ["n"], [(0, ["n"], [0])]⟩, ⟨4, "lowest", ["num", "den"], []⟩, ⟨5, "doubling_room", ["g", "n"], [(0, ["n", "g"], [1, 0])]⟩, ⟨6, "doubling_costs", ["g", "n"], [(0, ["n", "g"], [1, 0])]⟩, ⟨7, "doubling_price", ["g"], []⟩, ⟨8, "doubling_quotient", ["g", "n"], []⟩, ⟨9, "adding_costs", ["k", "n"], [(0, ["n", "k"], [1, 0])]⟩, ⟨10, "_law_draw", ["bag", "below"], []⟩, ⟨11, "_law_pick", ["bag", "some"], []⟩, ⟨12, "_law_same", ["told", "due"], []⟩, ⟨13, "_law_moved", ["g", "n"], []⟩, ⟨14, "_law_is_growing_right", ["bag"], []⟩, ⟨15, "_law_walk", ["size", "deeds"], []⟩, ⟨16, "_law_deeds", ["bag", "size"], []⟩, ⟨17, "_law_is_stack_right", ["bag"], []⟩, ⟨18, "_law_is_beside_right", ["bag"], []⟩, ⟨19, "_law_is_most_right", ["bag"], []⟩], [("MAX_ROOMS", 20)]⟩
def sgmany_after : Sg := ⟨["size", "deed"], defScope (topS 1), [0, 1], [0, 1], [], ["max"]⟩
theorem sgmany_after_ok : SgOk sgmany_after := sg_by (by decide +kernel)
theorem scmany_after : FnScope sgmany_after.N ["size", "deed"] (defScope (topS 1)) := ⟨rfl, rfl, rfl, by decide +kernel, rfl, by decide +kernel, by decide +kernel⟩
def irmany_after : List S := [(.ret (.ite (.cmp .isN (.bor 1) .non) (.bin .add (.bor 0) (.int 1)) (.bi .max [(.int 0), (.bin .sub (.bor 0) (.bor 1))])))]
theorem jmany_after {X : Cx} {k : Nat} {Γ : Gm} (W : Wd X k sgmany_after pg Γ) : JSs X Γ (defBody (topS 1)) irmany_after :=
  (W.e1 (W.ret (W.ite (W.cmpT .isN W.bor (W.jb W.non)) (W.je (W.bin .add W.bor (W.jb W.int))) (W.je (W.bi (bMax W) (W.ab (W.jb W.int) (W.ab (W.fb (W.bin .sub W.bor W.bor)) W.nb))))))
  W.e0)
def sgmany_cost : Sg := ⟨["size", "deed"], defScope (topS 2), [0, 1], [0, 1], [], ["min"]⟩
theorem sgmany_cost_ok : SgOk sgmany_cost := sg_by (by decide +kernel)
theorem scmany_cost : FnScope sgmany_cost.N ["size", "deed"] (defScope (topS 2)) := ⟨rfl, rfl, rfl, by decide +kernel, rfl, by decide +kernel, by decide +kernel⟩
def irmany_cost : List S := [(.ret (.ite (.cmp .isN (.bor 1) .non) (.int 1) (.bin .add (.int 1) (.bi .min [(.bor 0), (.bor 1)]))))]
theorem jmany_cost {X : Cx} {k : Nat} {Γ : Gm} (W : Wd X k sgmany_cost pg Γ) : JSs X Γ (defBody (topS 2)) irmany_cost :=
  (W.e1 (W.ret (W.ite (W.cmpT .isN W.bor (W.jb W.non)) W.int (W.je (W.bin .add (W.jb W.int) (W.fb (W.bi (bMin W) (W.ab W.bor (W.ab W.bor W.nb))))))))
  W.e0)
def sgmany_run : Sg := ⟨["size", "deeds", "here", "found", "deed"], defScope (topS 3), [0, 1, 2, 3, 4], [0, 1, 2, 3, 4], [], ["many_after", "many_cost", "tuple"]⟩
theorem sgmany_run_ok : SgOk sgmany_run := sg_by (by decide +kernel)
theorem scmany_run : FnScope sgmany_run.N ["size", "deeds"] (defScope (topS 3)) := ⟨rfl, rfl, rfl, by decide +kernel, rfl, by decide +kernel, by decide +kernel⟩
def irmany_run : List S := [(.par [(2, false), (3, true)] [(.var 0), (.lst [])]),
  (.fr (.nm 4) .seq [(.var 1)] [(.app 3 (.call 1 [(.var 2), (.var 4)])),
  (.asg 2 (.call 0 [(.var 2), (.var 4)]))]),
  (.ret (.bi .tuple [(.bor 3)]))]
theorem jmany_run {X : Cx} {k : Nat} {Γ : Gm} (W : Wd X k sgmany_run pg Γ) : JSs X Γ (defBody (topS 3)) irmany_run :=
  (W.e1 (W.par2 (W.av W.var (W.ao (W.lst W.n) W.nf)))
  (W.e1 (W.fr (W.seq (b := false) W.var) W.tn
  (W.e1 (W.app (W.call 1 (W.a W.var (W.a W.var W.n))))
  (W.e1 (W.asg (W.call 0 (W.a W.var (W.a W.var W.n))))
  W.e0)))
  (W.e1 (W.ret (W.je (W.bi bTuple (W.ab W.bor W.nb))))
  W.e0)))
def sgmany_most : Sg := ⟨["n"], defScope (topS 4), [0], [0], [], []⟩
theorem sgmany_most_ok : SgOk sgmany_most := sg_by (by decide +kernel)
theorem scmany_most : FnScope sgmany_most.N ["n"] (defScope (topS 4)) := ⟨rfl, rfl, rfl, by decide +kernel, rfl, by decide +kernel, by decide +kernel⟩
def irmany_most : List S := [(.ret (.ite (.cmp .eq (.bor 0) (.int 0)) (.int 0) (.bin .sub (.bin .mul (.int 2) (.bor 0)) (.int 1))))]
theorem jmany_most {X : Cx} {k : Nat} {Γ : Gm} (W : Wd X k sgmany_most pg Γ) : JSs X Γ (defBody (topS 4)) irmany_most :=
  (W.e1 (W.ret (W.ite (W.cmpT .eq W.bor (W.jb W.int)) W.int (W.je (W.bin .sub (W.fb (W.bin .mul (W.jb W.int) W.bor)) (W.jb W.int)))))
  W.e0)
def sglowest : Sg := ⟨["num", "den", "one", "other"], defScope (topS 7), [0, 1, 2, 3], [0, 1, 2, 3], [], ["abs"]⟩
theorem sglowest_ok : SgOk sglowest := sg_by (by decide +kernel)
theorem sclowest : FnScope sglowest.N ["num", "den"] (defScope (topS 7)) := ⟨rfl, rfl, rfl, by decide +kernel, rfl, by decide +kernel, by decide +kernel⟩
def irlowest : List S := [(.par [(2, false), (3, false)] [(.bi .abs [(.bor 0)]), (.var 1)]),
  (.whl (.cmp .ne (.bor 3) (.int 0)) [(.par [(2, false), (3, false)] [(.var 3), (.bin .mod (.bor 2) (.bor 3))])]),
  (.ret (.tup [(.bin .fdiv (.bor 0) (.bor 2)), (.bin .fdiv (.bor 1) (.bor 2))]))]
theorem jlowest {X : Cx} {k : Nat} {Γ : Gm} (W : Wd X k sglowest pg Γ) : JSs X Γ (defBody (topS 7)) irlowest :=
  (W.e1 (W.par2 (W.av (W.je (W.bi bAbs (W.ab W.bor W.nb))) (W.av W.var W.nf)))
  (W.e1 (W.whl (W.cmpT .ne W.bor (W.jb W.int))
  (W.e1 (W.par2 (W.av W.var (W.av (W.je (W.bin .mod W.bor W.bor)) W.nf)))
  W.e0))
  (W.e1 (W.ret (W.je (W.tup (W.a (W.je (W.bin .fdiv W.bor W.bor)) (W.a (W.je (W.bin .fdiv W.bor W.bor)) W.n)))))
  W.e0)))
def sgdoubling_room : Sg := ⟨["g", "n", "room", "turn"], defScope (topS 9), [0, 1, 2, 3], [0, 1, 2, 3], [], ["MAX_ROOMS", "range"]⟩
theorem sgdoubling_room_ok : SgOk sgdoubling_room := sg_by (by decide +kernel)
theorem scdoubling_room : FnScope sgdoubling_room.N ["g", "n"] (defScope (topS 9)) := ⟨rfl, rfl, rfl, by decide +kernel, rfl, by decide +kernel, by decide +kernel⟩
def irdoubling_room : List S := [(.asg 2 (.int 1)),
  (.fr (.nm 3) .rng [(.glb 0 20)] [(.ite (.cmp .lt (.bor 2) (.bor 1))
  [(.asg 2 (.bin .mul (.bor 0) (.bor 2)))]
  [])]),
  (.ret (.var 2))]
theorem jdoubling_room {X : Cx} {k : Nat} {Γ : Gm} (W : Wd X k sgdoubling_room pg Γ) : JSs X Γ (defBody (topS 9)) irdoubling_room :=
  (W.e1 (W.asg W.int)
  (W.e1 (W.fr (W.rng1 (b := false) (W.a (W.glb 0) W.n)) W.tn
  (W.e1 (W.iff (W.cmpT .lt W.bor W.bor)
  (W.e1 (W.asg (W.je (W.bin .mul W.bor W.bor)))
  W.e0)
  W.e0)
  W.e0))
  (W.e1 (W.ret W.var)
  W.e0)))
def sgdoubling_costs : Sg := ⟨["g", "n"], defScope (topS 10), [0, 1], [0, 1], [], ["doubling_room"]⟩
theorem sgdoubling_costs_ok : SgOk sgdoubling_costs := sg_by (by decide +kernel)
theorem scdoubling_costs : FnScope sgdoubling_costs.N ["g", "n"] (defScope (topS 10)) := ⟨rfl, rfl, rfl, by decide +kernel, rfl, by decide +kernel, by decide +kernel⟩
def irdoubling_costs : List S := [(.ite (.cmp .eq (.bor 1) (.int 0))
  [(.ret (.int 0))]
  []),
  (.ret (.bin .add (.bor 1) (.bin .fdiv (.bin .sub (.call 5 [(.var 0), (.var 1)]) (.int 1)) (.bin .sub (.bor 0) (.int 1)))))]
theorem jdoubling_costs {X : Cx} {k : Nat} {Γ : Gm} (W : Wd X k sgdoubling_costs pg Γ) : JSs X Γ (defBody (topS 10)) irdoubling_costs :=
  (W.e1 (W.iff (W.cmpT .eq W.bor (W.jb W.int))
  (W.e1 (W.ret W.int)
  W.e0)
  W.e0)
  (W.e1 (W.ret (W.je (W.bin .add W.bor (W.fb (W.bin .fdiv (W.fb (W.bin .sub (W.jb (W.call 5 (W.a W.var (W.a W.var W.n)))) (W.jb W.int))) (W.fb (W.bin .sub W.bor (W.jb W.int))))))))
  W.e0))
def sgdoubling_price : Sg := ⟨["g"], defScope (topS 12), [0], [0], [], ["lowest"]⟩
theorem sgdoubling_price_ok : SgOk sgdoubling_price := sg_by (by decide +kernel)
theorem scdoubling_price : FnScope sgdoubling_price.N ["g"] (defScope (topS 12)) := ⟨rfl, rfl, rfl, by decide +kernel, rfl, by decide +kernel, by decide +kernel⟩
def irdoubling_price : List S := [(.ret (.call 4 [(.bin .sub (.bin .mul (.int 2) (.bor 0)) (.int 1)), (.bin .sub (.bor 0) (.int 1))]))]
theorem jdoubling_price {X : Cx} {k : Nat} {Γ : Gm} (W : Wd X k sgdoubling_price pg Γ) : JSs X Γ (defBody (topS 12)) irdoubling_price :=
  (W.e1 (W.ret (W.call 4 (W.a (W.je (W.bin .sub (W.fb (W.bin .mul (W.jb W.int) W.bor)) (W.jb W.int))) (W.a (W.je (W.bin .sub W.bor (W.jb W.int))) W.n))))
  W.e0)
def sgdoubling_quotient : Sg := ⟨["g", "n"], defScope (topS 13), [0, 1], [0, 1], [], ["doubling_costs", "lowest"]⟩
theorem sgdoubling_quotient_ok : SgOk sgdoubling_quotient := sg_by (by decide +kernel)
theorem scdoubling_quotient : FnScope sgdoubling_quotient.N ["g", "n"] (defScope (topS 13)) := ⟨rfl, rfl, rfl, by decide +kernel, rfl, by decide +kernel, by decide +kernel⟩
def irdoubling_quotient : List S := [(.ret (.call 4 [(.call 6 [(.var 0), (.var 1)]), (.var 1)]))]
theorem jdoubling_quotient {X : Cx} {k : Nat} {Γ : Gm} (W : Wd X k sgdoubling_quotient pg Γ) : JSs X Γ (defBody (topS 13)) irdoubling_quotient :=
  (W.e1 (W.ret (W.call 4 (W.a (W.call 6 (W.a W.var (W.a W.var W.n))) (W.a W.var W.n))))
  W.e0)
def sgadding_costs : Sg := ⟨["k", "n", "times"], defScope (topS 14), [0, 1, 2], [0, 1, 2], [], []⟩
theorem sgadding_costs_ok : SgOk sgadding_costs := sg_by (by decide +kernel)
theorem scadding_costs : FnScope sgadding_costs.N ["k", "n"] (defScope (topS 14)) := ⟨rfl, rfl, rfl, by decide +kernel, rfl, by decide +kernel, by decide +kernel⟩
def iradding_costs : List S := [(.ite (.cmp .eq (.bor 1) (.int 0))
  [(.ret (.int 0))]
  []),
  (.asg 2 (.bin .fdiv (.bin .sub (.bin .add (.bin .sub (.bor 1) (.int 1)) (.bor 0)) (.int 1)) (.bor 0))),
  (.ret (.bin .add (.bin .add (.bor 1) (.bor 2)) (.bin .mul (.bor 0) (.bin .fdiv (.bin .mul (.bor 2) (.bin .sub (.bor 2) (.int 1))) (.int 2)))))]
theorem jadding_costs {X : Cx} {k : Nat} {Γ : Gm} (W : Wd X k sgadding_costs pg Γ) : JSs X Γ (defBody (topS 14)) iradding_costs :=
  (W.e1 (W.iff (W.cmpT .eq W.bor (W.jb W.int))
  (W.e1 (W.ret W.int)
  W.e0)
  W.e0)
  (W.e1 (W.asg (W.je (W.bin .fdiv (W.fb (W.bin .sub (W.fb (W.bin .add (W.fb (W.bin .sub W.bor (W.jb W.int))) W.bor)) (W.jb W.int))) W.bor)))
  (W.e1 (W.ret (W.je (W.bin .add (W.fb (W.bin .add W.bor W.bor)) (W.fb (W.bin .mul W.bor (W.fb (W.bin .fdiv (W.fb (W.bin .mul W.bor (W.fb (W.bin .sub W.bor (W.jb W.int))))) (W.jb W.int))))))))
  W.e0)))
def sglaw_draw : Sg := ⟨["bag", "below", "turn", "cell", "found"], defScope (topS 17), [0, 1, 2, 3, 4], [0, 1, 2, 3, 4], [], ["int", "range"]⟩
theorem sglaw_draw_ok : SgOk sglaw_draw := sg_by (by decide +kernel)
theorem sclaw_draw : FnScope sglaw_draw.N ["bag", "below"] (defScope (topS 17)) := ⟨rfl, rfl, rfl, by decide +kernel, rfl, by decide +kernel, by decide +kernel⟩
def irlaw_draw : List S := [(.fr (.nm 2) .rng [(.int 64)] [(.ite (.or (.cmp .gt (.bget 1 (.bor 0)) (.int 0)) (.bemp (.bor 0)))
  [.brk]
  []),
  (.bpop 3 0),
  (.bset 0 1 (.ite (.cmp .gt (.bor 3) (.bin .pow (.int 10) (.int 9))) (.var 3) (.int 0)))]),
  (.ite (.cmp .gt (.bget 1 (.bor 0)) (.int 0))
  [(.asg 4 (.bin .mod (.bi .int [(.bget 1 (.bor 0))]) (.bor 1))),
  (.bset 0 1 (.ite (.cmp .gt (.bor 1) (.int 1)) (.bin .fdiv (.bget 1 (.bor 0)) (.bor 1)) (.bin .fdiv (.bget 1 (.bor 0)) (.int 2)))),
  (.ret (.var 4))]
  []),
  (.bset 0 2 (.bin .mod (.bin .add (.bin .mul (.bi .int [(.bget 2 (.bor 0))]) (.int 48271)) (.int 11)) (.int 2147483647))),
  (.ret (.bin .mod (.bin .fdiv (.bin .mod (.bi .int [(.bin .mul (.bget 2 (.bor 0)) (.bget 2 (.bor 0)))]) (.int 2147483629)) (.int 7)) (.bor 1)))]
theorem jlaw_draw {X : Cx} {k : Nat} {Γ : Gm} (W : Wd X k sglaw_draw pg Γ) : JSs X Γ (defBody (topS 17)) irlaw_draw :=
  (W.e1 (W.fr (W.rng1 (b := false) (W.a W.int W.n)) W.tn
  (W.e1 (W.iff (W.wt (W.or (W.cmpT .gt (W.jb (W.bget1 W.bor)) (W.jb W.int)) (W.oneO (W.bemp W.bor))))
  (W.e1 W.brk
  W.e0)
  W.e0)
  (W.e1 W.bpop
  (W.e1 (W.bset1 (W.ite (W.cmpT .gt W.bor (W.fb (W.bin .pow (W.jb W.int) (W.jb W.int)))) W.var W.int))
  W.e0))))
  (W.e1 (W.iff (W.cmpT .gt (W.jb (W.bget1 W.bor)) (W.jb W.int))
  (W.e1 (W.asg (W.je (W.bin .mod (W.fb (W.bi bInt (W.ab (W.jb (W.bget1 W.bor)) W.nb))) W.bor)))
  (W.e1 (W.bset1 (W.ite (W.cmpT .gt W.bor (W.jb W.int)) (W.je (W.bin .fdiv (W.jb (W.bget1 W.bor)) W.bor)) (W.je (W.bin .fdiv (W.jb (W.bget1 W.bor)) (W.jb W.int)))))
  (W.e1 (W.ret W.var)
  W.e0)))
  W.e0)
  (W.e1 (W.bset2 (W.je (W.bin .mod (W.fb (W.bin .add (W.fb (W.bin .mul (W.fb (W.bi bInt (W.ab (W.jb (W.bget2 W.bor)) W.nb))) (W.jb W.int))) (W.jb W.int))) (W.jb W.int))))
  (W.e1 (W.ret (W.je (W.bin .mod (W.fb (W.bin .fdiv (W.fb (W.bin .mod (W.fb (W.bi bInt (W.ab (W.fb (W.bin .mul (W.jb (W.bget2 W.bor)) (W.jb (W.bget2 W.bor)))) W.nb))) (W.jb W.int))) (W.jb W.int))) W.bor)))
  W.e0))))
def sglaw_pick : Sg := ⟨["bag", "some"], defScope (topS 18), [0, 1], [0, 1], [], ["_law_draw", "len"]⟩
theorem sglaw_pick_ok : SgOk sglaw_pick := sg_by (by decide +kernel)
theorem sclaw_pick : FnScope sglaw_pick.N ["bag", "some"] (defScope (topS 18)) := ⟨rfl, rfl, rfl, by decide +kernel, rfl, by decide +kernel, by decide +kernel⟩
def irlaw_pick : List S := [(.ret (.idx (.bor 1) (.call 10 [(.var 0), (.bi .len [(.bor 1)])])))]
theorem jlaw_pick {X : Cx} {k : Nat} {Γ : Gm} (W : Wd X k sglaw_pick pg Γ) : JSs X Γ (defBody (topS 18)) irlaw_pick :=
  (W.e1 (W.ret (W.idx W.bor (W.jb (W.call 10 (W.a W.var (W.a (W.je (W.bi bLen (W.ab W.bor W.nb))) W.n))))))
  W.e0)
def sglaw_same : Sg := ⟨["told", "due", "a", "b"], defScope (topS 19), [0, 1], [0, 1], [], ["all", "bool", "int", "isinstance", "len", "str", "tuple", "zip"]⟩
theorem sglaw_same_ok : SgOk sglaw_same := sg_by (by decide +kernel)
theorem sclaw_same : FnScope sglaw_same.N ["told", "due"] (defScope (topS 19)) := ⟨rfl, rfl, rfl, by decide +kernel, rfl, by decide +kernel, by decide +kernel⟩
def sglaw_same_0 (scope : Scope) : Sg := ⟨sglaw_same.N, relS scope sglaw_same.sc, [2, 3], [2, 3], [], ["_law_same"]⟩
def irlaw_same : List S := [(.ite (.isi .tuple (.bor 1))
  [(.ite (.or (.nt (.isi .tuple (.bor 0))) (.cmp .ne (.bi .len [(.bor 0)]) (.bi .len [(.bor 1)])))
  [(.ret (.bl false))]
  []),
  (.ret (.bi .all [(.lc .zip [(.bor 0), (.bor 1)] (.tp [(.nm 2), (.nm 3)]) [2, 3] (.bl true) (.call 12 [(.var 2), (.var 3)]))]))]
  []),
  (.ite (.cmp .isN (.bor 1) .non)
  [(.ret (.cmp .isN (.bor 0) .non))]
  []),
  (.ite (.isi .bool (.bor 1))
  [(.ret (.an (.isi .bool (.bor 0)) (.cmp .eq (.bor 0) (.bor 1))))]
  []),
  (.ite (.isi .str (.bor 1))
  [(.ret (.an (.isi .str (.bor 0)) (.cmp .eq (.bor 0) (.bor 1))))]
  []),
  (.ret (.an (.isi .int (.bor 0)) (.an (.nt (.isi .bool (.bor 0))) (.cmp .eq (.bor 0) (.bor 1)))))]
theorem jlaw_same {X : Cx} {k : Nat} {Γ : Gm} (W : Wd X k sglaw_same pg Γ) : JSs X Γ (defBody (topS 19)) irlaw_same :=
  (W.e1 (W.iff (W.tstE (W.je (W.isi .tuple W.bor)))
  (W.e1 (W.iff (W.wt (W.or (W.nt (W.tstE (W.je (W.isi .tuple W.bor)))) (W.oneO (W.cmpT .ne (W.fb (W.bi bLen (W.ab W.bor W.nb))) (W.fb (W.bi bLen (W.ab W.bor W.nb)))))))
  (W.e1 (W.ret W.bl)
  W.e0)
  W.e0)
  (W.e1 (W.ret (W.je (W.bi (bAll W) (W.ab (W.fb (W.lc (s' := sglaw_same_0 _) (own := [("a", 2), ("b", 3)]) ⟨sg_by (by decide +kernel), rfl, rfl, by decide +kernel, by decide +kernel, by decide +kernel, fun Y W => ⟨(W.tt (W.t1 W.tn (W.t1 W.tn W.t0))), W.c0, (W.call 12 (W.a W.var (W.a W.var W.n)))⟩⟩ (W.zip (b := true) (W.ab W.bor (W.ab W.bor W.nb))))) W.nb))))
  W.e0))
  W.e0)
  (W.e1 (W.iff (W.cmpT .isN W.bor (W.jb W.non))
  (W.e1 (W.ret (W.je (W.cmp .isN W.bor (W.jb W.non))))
  W.e0)
  W.e0)
  (W.e1 (W.iff (W.tstE (W.je (W.isi .bool W.bor)))
  (W.e1 (W.ret (W.anV (W.je (W.isi .bool W.bor)) (W.one (W.je (W.cmp .eq W.bor W.bor)))))
  W.e0)
  W.e0)
  (W.e1 (W.iff (W.tstE (W.je (W.isi .str W.bor)))
  (W.e1 (W.ret (W.anV (W.je (W.isi .str W.bor)) (W.one (W.je (W.cmp .eq W.bor W.bor)))))
  W.e0)
  W.e0)
  (W.e1 (W.ret (W.anV (W.je (W.isi .int W.bor)) (W.anV (W.je (W.ntV (W.je (W.isi .bool W.bor)))) (W.one (W.je (W.cmp .eq W.bor W.bor))))))
  W.e0)))))
def sglaw_moved : Sg := ⟨["g", "n", "found", "room", "turn"], defScope (topS 20), [0, 1, 2, 3, 4], [0, 1, 2, 3, 4], [], ["range"]⟩
theorem sglaw_moved_ok : SgOk sglaw_moved := sg_by (by decide +kernel)
theorem sclaw_moved : FnScope sglaw_moved.N ["g", "n"] (defScope (topS 20)) := ⟨rfl, rfl, rfl, by decide +kernel, rfl, by decide +kernel, by decide +kernel⟩
def irlaw_moved : List S := [(.par [(2, true), (3, false)] [(.lst []), (.int 1)]),
  (.fr (.nm 4) .rng [(.int 25)] [(.ite (.cmp .lt (.bor 3) (.bor 1))
  [(.app 2 (.var 3)),
  (.asg 3 (.bin .mul (.bor 3) (.bor 0)))]
  [])]),
  (.frz [2]),
  (.ret (.tup [(.var 2), (.var 3)]))]
theorem jlaw_moved {X : Cx} {k : Nat} {Γ : Gm} (W : Wd X k sglaw_moved pg Γ) : JSs X Γ (defBody (topS 20)) irlaw_moved :=
  (W.e1 (W.par2 (W.ao (W.lst W.n) (W.av W.int W.nf)))
  (W.e1 (W.fr (W.rng1 (b := false) (W.a W.int W.n)) W.tn
  (W.e1 (W.iff (W.cmpT .lt W.bor W.bor)
  (W.e1 (W.app W.var)
  (W.e1 (W.asg (W.je (W.bin .mul W.bor W.bor)))
  W.e0))
  W.e0)
  W.e0))
  (W.ef (W.e1 (W.ret (W.je (W.tup (W.a W.var (W.a W.var W.n)))))
  W.e0))))
def sglaw_is_growing_right : Sg := ⟨["bag", "g", "n", "over", "room", "told", "mean", "price", "k", "m", "total", "turn"], defScope (topS 21), [0, 1, 2, 3, 4, 5, 6, 7, 8, 9, 10, 11], [0, 1, 2, 3, 4, 5, 6, 7, 8, 9, 10, 11], [], ["_law_draw", "_law_moved", "_law_pick", "_law_same", "adding_costs", "doubling_costs", "doubling_price", "doubling_quotient", "doubling_room", "range", "sum"]⟩
theorem sglaw_is_growing_right_ok : SgOk sglaw_is_growing_right := sg_by (by decide +kernel)
theorem sclaw_is_growing_right : FnScope sglaw_is_growing_right.N ["bag"] (defScope (topS 21)) := ⟨rfl, rfl, rfl, by decide +kernel, rfl, by decide +kernel, by decide +kernel⟩
def irlaw_is_growing_right : List S := [(.par [(1, false), (2, false)] [(.bin .add (.int 2) (.call 10 [(.var 0), (.int 7)])), (.call 11 [(.var 0), (.lst [(.int 0), (.int 1), (.int 2), (.bin .pow (.int 10) (.int 6)), (.call 10 [(.var 0), (.bin .pow (.int 10) (.int 6))]), (.call 10 [(.var 0), (.int 200)])])])]),
  (.unp (.tp [(.nm 3), (.nm 4)]) (.call 13 [(.var 1), (.var 2)])),
  (.asg 5 (.tup [(.call 6 [(.var 1), (.var 2)]), (.call 5 [(.var 1), (.var 2)]), (.calk 6 [(.var 2), (.var 1)] [1, 0]), (.calk 5 [(.var 2), (.var 1)] [1, 0])])),
  (.ite (.nt (.call 12 [(.var 5), (.tup [(.bin .add (.bor 2) (.bi .sum [(.bor 3)])), (.var 4), (.bin .add (.bor 2) (.bi .sum [(.bor 3)])), (.var 4)])]))
  [(.ret (.bl false))]
  []),
  (.ite (.cmp .gt (.bor 2) (.int 0))
  [(.par [(6, false), (7, false)] [(.call 8 [(.var 1), (.var 2)]), (.call 7 [(.var 1)])]),
  (.ite (.or (.cmp .ne (.bin .mul (.idx (.bor 6) (.int 0)) (.bor 2)) (.bin .mul (.bin .add (.bor 2) (.bi .sum [(.bor 3)])) (.idx (.bor 6) (.int 1)))) (.or (.cmp .ge (.bin .mul (.idx (.bor 6) (.int 0)) (.idx (.bor 7) (.int 1))) (.bin .mul (.idx (.bor 7) (.int 0)) (.idx (.bor 6) (.int 1)))) (.cmp .lt (.idx (.bor 6) (.int 0)) (.idx (.bor 6) (.int 1)))))
  [(.ret (.bl false))]
  [])]
  []),
  (.par [(8, false), (9, false)] [(.bin .add (.int 1) (.call 10 [(.var 0), (.int 60)])), (.call 10 [(.var 0), (.int 600)])]),
  (.par [(10, false), (4, false)] [(.var 9), (.int 1)]),
  (.fr (.nm 11) .rng [(.int 600)] [(.ite (.cmp .lt (.bor 4) (.bor 9))
  [(.par [(10, false), (4, false)] [(.bin .add (.bor 10) (.bor 4)), (.bin .add (.bor 4) (.bor 8))])]
  [])]),
  (.ret (.call 12 [(.tup [(.call 9 [(.var 8), (.var 9)]), (.calk 9 [(.var 9), (.var 8)] [1, 0])]), (.tup [(.var 10), (.var 10)])]))]
theorem jlaw_is_growing_right {X : Cx} {k : Nat} {Γ : Gm} (W : Wd X k sglaw_is_growing_right pg Γ) : JSs X Γ (defBody (topS 21)) irlaw_is_growing_right :=
  (W.e1 (W.par2 (W.av (W.je (W.bin .add (W.jb W.int) (W.jb (W.call 10 (W.a W.var (W.a W.int W.n)))))) (W.av (W.call 11 (W.a W.var (W.a (W.je (W.lst (W.a W.int (W.a W.int (W.a W.int (W.a (W.je (W.bin .pow (W.jb W.int) (W.jb W.int))) (W.a (W.call 10 (W.a W.var (W.a (W.je (W.bin .pow (W.jb W.int) (W.jb W.int))) W.n))) (W.a (W.call 10 (W.a W.var (W.a W.int W.n))) W.n)))))))) W.n))) W.nf)))
  (W.e1 (W.unp (W.call 13 (W.a W.var (W.a W.var W.n))) (W.tt (W.t1 W.tn (W.t1 W.tn W.t0))))
  (W.e1 (W.asg (W.je (W.tup (W.a (W.call 6 (W.a W.var (W.a W.var W.n))) (W.a (W.call 5 (W.a W.var (W.a W.var W.n))) (W.a (W.calk0 6 0 (W.ak W.var (W.ak W.var W.nk))) (W.a (W.calk0 5 0 (W.ak W.var (W.ak W.var W.nk))) W.n)))))))
  (W.e1 (W.iff (W.nt (W.tstE (W.call 12 (W.a W.var (W.a (W.je (W.tup (W.a (W.je (W.bin .add W.bor (W.fb (W.bi (bSum W) (W.ab W.bor W.nb))))) (W.a W.var (W.a (W.je (W.bin .add W.bor (W.fb (W.bi (bSum W) (W.ab W.bor W.nb))))) (W.a W.var W.n)))))) W.n)))))
  (W.e1 (W.ret W.bl)
  W.e0)
  W.e0)
  (W.e1 (W.iff (W.cmpT .gt W.bor (W.jb W.int))
  (W.e1 (W.par2 (W.av (W.call 8 (W.a W.var (W.a W.var W.n))) (W.av (W.call 7 (W.a W.var W.n)) W.nf)))
  (W.e1 (W.iff (W.wt (W.or (W.cmpT .ne (W.fb (W.bin .mul (W.jb (W.idx W.bor (W.jb W.int))) W.bor)) (W.fb (W.bin .mul (W.fb (W.bin .add W.bor (W.fb (W.bi (bSum W) (W.ab W.bor W.nb))))) (W.jb (W.idx W.bor (W.jb W.int)))))) (W.or (W.cmpT .ge (W.fb (W.bin .mul (W.jb (W.idx W.bor (W.jb W.int))) (W.jb (W.idx W.bor (W.jb W.int))))) (W.fb (W.bin .mul (W.jb (W.idx W.bor (W.jb W.int))) (W.jb (W.idx W.bor (W.jb W.int)))))) (W.oneO (W.cmpT .lt (W.jb (W.idx W.bor (W.jb W.int))) (W.jb (W.idx W.bor (W.jb W.int))))))))
  (W.e1 (W.ret W.bl)
  W.e0)
  W.e0)
  W.e0))
  W.e0)
  (W.e1 (W.par2 (W.av (W.je (W.bin .add (W.jb W.int) (W.jb (W.call 10 (W.a W.var (W.a W.int W.n)))))) (W.av (W.call 10 (W.a W.var (W.a W.int W.n))) W.nf)))
  (W.e1 (W.par2 (W.av W.var (W.av W.int W.nf)))
  (W.e1 (W.fr (W.rng1 (b := false) (W.a W.int W.n)) W.tn
  (W.e1 (W.iff (W.cmpT .lt W.bor W.bor)
  (W.e1 (W.par2 (W.av (W.je (W.bin .add W.bor W.bor)) (W.av (W.je (W.bin .add W.bor W.bor)) W.nf)))
  W.e0)
  W.e0)
  W.e0))
  (W.e1 (W.ret (W.call 12 (W.a (W.je (W.tup (W.a (W.call 9 (W.a W.var (W.a W.var W.n))) (W.a (W.calk0 9 0 (W.ak W.var (W.ak W.var W.nk))) W.n)))) (W.a (W.je (W.tup (W.a W.var (W.a W.var W.n)))) W.n))))
  W.e0)))))))))
def sglaw_walk : Sg := ⟨["size", "deeds", "costs", "deed", "cost"], defScope (topS 22), [0, 1, 2, 3, 4], [0, 1, 2, 3, 4], [], ["max", "min", "tuple"]⟩
theorem sglaw_walk_ok : SgOk sglaw_walk := sg_by (by decide +kernel)
theorem sclaw_walk : FnScope sglaw_walk.N ["size", "deeds"] (defScope (topS 22)) := ⟨rfl, rfl, rfl, by decide +kernel, rfl, by decide +kernel, by decide +kernel⟩
def irlaw_walk : List S := [(.asgO 2 (.lst [])),
  (.fr (.nm 3) .seq [(.var 1)] [(.ite (.cmp .isN (.bor 3) .non)
  [(.par [(0, false), (4, false)] [(.bin .add (.bor 0) (.int 1)), (.int 1)])]
  [(.asg 4 (.bin .add (.int 1) (.bi .min [(.bor 0), (.bor 3)]))),
  (.asg 0 (.bi .max [(.int 0), (.bin .sub (.bor 0) (.bor 3))]))]),
  (.app 2 (.var 4))]),
  (.ret (.lst [(.bi .tuple [(.bor 2)]), (.var 0)]))]
theorem jlaw_walk {X : Cx} {k : Nat} {Γ : Gm} (W : Wd X k sglaw_walk pg Γ) : JSs X Γ (defBody (topS 22)) irlaw_walk :=
  (W.e1 (W.asgO (W.lst W.n))
  (W.e1 (W.fr (W.seq (b := false) W.var) W.tn
  (W.e1 (W.iff (W.cmpT .isN W.bor (W.jb W.non))
  (W.e1 (W.par2 (W.av (W.je (W.bin .add W.bor (W.jb W.int))) (W.av W.int W.nf)))
  W.e0)
  (W.e1 (W.asg (W.je (W.bin .add (W.jb W.int) (W.fb (W.bi (bMin W) (W.ab W.bor (W.ab W.bor W.nb)))))))
  (W.e1 (W.asg (W.je (W.bi (bMax W) (W.ab (W.jb W.int) (W.ab (W.fb (W.bin .sub W.bor W.bor)) W.nb)))))
  W.e0)))
  (W.e1 (W.app W.var)
  W.e0)))
  (W.e1 (W.ret (W.je (W.lst (W.a (W.je (W.bi bTuple (W.ab W.bor W.nb))) (W.a W.var W.n)))))
  W.e0)))
def sglaw_deeds : Sg := ⟨["bag", "size", "found", "here", "way", "turn", "is_put", "many"], defScope (topS 23), [0, 1, 2, 3, 4, 5, 6, 7], [0, 1, 2, 3, 4, 5, 6, 7], [], ["_law_draw", "_law_pick", "int", "max", "range", "tuple"]⟩
theorem sglaw_deeds_ok : SgOk sglaw_deeds := sg_by (by decide +kernel)
theorem sclaw_deeds : FnScope sglaw_deeds.N ["bag", "size"] (defScope (topS 23)) := ⟨rfl, rfl, rfl, by decide +kernel, rfl, by decide +kernel, by decide +kernel⟩
def irlaw_deeds : List S := [(.par [(2, true), (3, false), (4, false)] [(.lst []), (.var 1), (.call 10 [(.var 0), (.int 4)])]),
  (.fr (.nm 5) .rng [(.call 11 [(.var 0), (.lst [(.int 0), (.int 5), (.int 40), (.int 200)])])] [(.asg 6 (.ite (.cmp .lt (.bor 4) (.int 2)) (.cmp .gt (.call 10 [(.var 0), (.int 3)]) (.int 0)) (.ite (.cmp .eq (.bor 4) (.int 2)) (.cmp .lt (.bin .mod (.bi .int [(.bor 5)]) (.int 30)) (.int 29)) (.cmp .eq (.bin .band (.bor 5) (.int 1)) (.int 0))))),
  (.ite (.an (.var 6) (.cmp .lt (.bor 3) (.int 60)))
  [(.app 2 .non),
  (.asg 3 (.bin .add (.bor 3) (.int 1)))]
  [(.asg 7 (.call 11 [(.var 0), (.lst [(.int 0), (.int 1), (.int 60), (.var 3), (.call 10 [(.var 0), (.int 61)])])])),
  (.app 2 (.var 7)),
  (.asg 3 (.bi .max [(.int 0), (.bin .sub (.bor 3) (.bor 7))]))])]),
  (.ret (.bi .tuple [(.bor 2)]))]
theorem jlaw_deeds {X : Cx} {k : Nat} {Γ : Gm} (W : Wd X k sglaw_deeds pg Γ) : JSs X Γ (defBody (topS 23)) irlaw_deeds :=
  (W.e1 (W.par3 (W.ao (W.lst W.n) (W.av W.var (W.av (W.call 10 (W.a W.var (W.a W.int W.n))) W.nf))))
  (W.e1 (W.fr (W.rng1 (b := false) (W.a (W.call 11 (W.a W.var (W.a (W.je (W.lst (W.a W.int (W.a W.int (W.a W.int (W.a W.int W.n)))))) W.n))) W.n)) W.tn
  (W.e1 (W.asg (W.ite (W.cmpT .lt W.bor (W.jb W.int)) (W.je (W.cmp .gt (W.jb (W.call 10 (W.a W.var (W.a W.int W.n)))) (W.jb W.int))) (W.ite (W.cmpT .eq W.bor (W.jb W.int)) (W.je (W.cmp .lt (W.fb (W.bin .mod (W.fb (W.bi bInt (W.ab W.bor W.nb))) (W.jb W.int))) (W.jb W.int))) (W.je (W.cmp .eq (W.fb (W.bin .band W.bor (W.jb W.int))) (W.jb W.int))))))
  (W.e1 (W.iff (W.wt (W.an (W.tstE W.var) (W.oneA (W.cmpT .lt W.bor (W.jb W.int)))))
  (W.e1 (W.app W.non)
  (W.e1 (W.asg (W.je (W.bin .add W.bor (W.jb W.int))))
  W.e0))
  (W.e1 (W.asg (W.call 11 (W.a W.var (W.a (W.je (W.lst (W.a W.int (W.a W.int (W.a W.int (W.a W.var (W.a (W.call 10 (W.a W.var (W.a W.int W.n))) W.n))))))) W.n))))
  (W.e1 (W.app W.var)
  (W.e1 (W.asg (W.je (W.bi (bMax W) (W.ab (W.jb W.int) (W.ab (W.fb (W.bin .sub W.bor W.bor)) W.nb)))))
  W.e0))))
  W.e0)))
  (W.e1 (W.ret (W.je (W.bi bTuple (W.ab W.bor W.nb))))
  W.e0)))
def sglaw_is_stack_right : Sg := ⟨["bag", "size", "deeds", "costs", "last", "puts", "here", "deed", "cost", "later", "told"], defScope (topS 24), [0, 1, 2, 3, 4, 5, 6, 7, 8, 9, 10], [0, 1, 2, 3, 4, 5, 6, 7, 8, 9, 10], [], ["_law_deeds", "_law_draw", "_law_pick", "_law_same", "_law_walk", "len", "many_after", "many_cost", "many_run", "sum"]⟩
theorem sglaw_is_stack_right_ok : SgOk sglaw_is_stack_right := sg_by (by decide +kernel)
theorem sclaw_is_stack_right : FnScope sglaw_is_stack_right.N ["bag"] (defScope (topS 24)) := ⟨rfl, rfl, rfl, by decide +kernel, rfl, by decide +kernel, by decide +kernel⟩
def sglaw_is_stack_right_0 (scope : Scope) : Sg := ⟨sglaw_is_stack_right.N, relS scope sglaw_is_stack_right.sc, [7], [7], [], []⟩
def irlaw_is_stack_right : List S := [(.asg 1 (.call 11 [(.var 0), (.lst [(.int 0), (.int 1), (.int 60), (.call 10 [(.var 0), (.int 61)])])])),
  (.asg 2 (.call 16 [(.var 0), (.var 1)])),
  (.unp (.tp [(.nm 3), (.nm 4)]) (.call 15 [(.var 1), (.var 2)])),
  (.ite (.nt (.call 12 [(.tup [(.call 2 [(.var 1), (.var 2)]), (.calk 2 [(.var 2), (.var 1)] [1, 0])]), (.tup [(.var 3), (.var 3)])]))
  [(.ret (.bl false))]
  []),
  (.asg 5 (.bi .len [(.lc .seq [(.bor 2)] (.nm 7) [7] (.cmp .isN (.bor 7) .non) (.var 7))])),
  (.ite (.cmp .ne (.bi .sum [(.bor 3)]) (.bin .sub (.bin .add (.bin .add (.bin .mul (.int 2) (.bor 5)) (.bin .sub (.bi .len [(.bor 2)]) (.bor 5))) (.bor 1)) (.bor 4)))
  [(.ret (.bl false))]
  []),
  (.asg 6 (.var 1)),
  (.fr (.nm 7) .seq [(.slc (.bor 2) .non (.int 10))] [(.unp (.tp [(.nm 8), (.nm 9)]) (.call 15 [(.var 6), (.tup [(.var 7)])])),
  (.asg 10 (.tup [(.call 1 [(.var 6), (.var 7)]), (.call 0 [(.var 6), (.var 7)]), (.calk 1 [(.var 7), (.var 6)] [1, 0]), (.calk 0 [(.var 7), (.var 6)] [1, 0])])),
  (.ite (.nt (.call 12 [(.var 10), (.tup [(.idx (.bor 8) (.int 0)), (.var 9), (.idx (.bor 8) (.int 0)), (.var 9)])]))
  [(.ret (.bl false))]
  []),
  (.asg 6 (.var 9))]),
  (.ret (.bl true))]
theorem jlaw_is_stack_right {X : Cx} {k : Nat} {Γ : Gm} (W : Wd X k sglaw_is_stack_right pg Γ) : JSs X Γ (defBody (topS 24)) irlaw_is_stack_right :=
  (W.e1 (W.asg (W.call 11 (W.a W.var (W.a (W.je (W.lst (W.a W.int (W.a W.int (W.a W.int (W.a (W.call 10 (W.a W.var (W.a W.int W.n))) W.n)))))) W.n))))
  (W.e1 (W.asg (W.call 16 (W.a W.var (W.a W.var W.n))))
  (W.e1 (W.unp (W.call 15 (W.a W.var (W.a W.var W.n))) (W.tt (W.t1 W.tn (W.t1 W.tn W.t0))))
  (W.e1 (W.iff (W.nt (W.tstE (W.call 12 (W.a (W.je (W.tup (W.a (W.call 2 (W.a W.var (W.a W.var W.n))) (W.a (W.calk0 2 0 (W.ak W.var (W.ak W.var W.nk))) W.n)))) (W.a (W.je (W.tup (W.a W.var (W.a W.var W.n)))) W.n)))))
  (W.e1 (W.ret W.bl)
  W.e0)
  W.e0)
  (W.e1 (W.asg (W.je (W.bi bLen (W.ab (W.fb (W.lc (s' := sglaw_is_stack_right_0 _) (own := [("deed", 7)]) ⟨sg_by (by decide +kernel), rfl, rfl, by decide +kernel, by decide +kernel, by decide +kernel, fun Y W => ⟨W.tn, (W.c1 (W.cmpT .isN W.bor (W.jb W.non))), W.var⟩⟩ (W.seq (b := true) W.bor))) W.nb))))
  (W.e1 (W.iff (W.cmpT .ne (W.fb (W.bi (bSum W) (W.ab W.bor W.nb))) (W.fb (W.bin .sub (W.fb (W.bin .add (W.fb (W.bin .add (W.fb (W.bin .mul (W.jb W.int) W.bor)) (W.fb (W.bin .sub (W.fb (W.bi bLen (W.ab W.bor W.nb))) W.bor)))) W.bor)) W.bor)))
  (W.e1 (W.ret W.bl)
  W.e0)
  W.e0)
  (W.e1 (W.asg W.var)
  (W.e1 (W.fr (W.seq (b := false) (W.je (W.slc W.bor W.p0 (W.p1 (W.jb W.int))))) W.tn
  (W.e1 (W.unp (W.call 15 (W.a W.var (W.a (W.je (W.tup (W.a W.var W.n))) W.n))) (W.tt (W.t1 W.tn (W.t1 W.tn W.t0))))
  (W.e1 (W.asg (W.je (W.tup (W.a (W.call 1 (W.a W.var (W.a W.var W.n))) (W.a (W.call 0 (W.a W.var (W.a W.var W.n))) (W.a (W.calk0 1 0 (W.ak W.var (W.ak W.var W.nk))) (W.a (W.calk0 0 0 (W.ak W.var (W.ak W.var W.nk))) W.n)))))))
  (W.e1 (W.iff (W.nt (W.tstE (W.call 12 (W.a W.var (W.a (W.je (W.tup (W.a (W.idx W.bor (W.jb W.int)) (W.a W.var (W.a (W.idx W.bor (W.jb W.int)) (W.a W.var W.n)))))) W.n)))))
  (W.e1 (W.ret W.bl)
  W.e0)
  W.e0)
  (W.e1 (W.asg W.var)
  W.e0)))))
  (W.e1 (W.ret W.bl)
  W.e0)))))))))
def sglaw_is_beside_right : Sg := ⟨["bag", "g", "n", "over", "room", "deeds", "many", "moved", "deed"], defScope (topS 25), [0, 1, 2, 3, 4, 5, 6, 7], [0, 1, 2, 3, 4, 5, 6, 7], [], ["_law_draw", "_law_moved", "_law_same", "len", "many_run", "sum", "tuple"]⟩
theorem sglaw_is_beside_right_ok : SgOk sglaw_is_beside_right := sg_by (by decide +kernel)
theorem sclaw_is_beside_right : FnScope sglaw_is_beside_right.N ["bag"] (defScope (topS 25)) := ⟨rfl, rfl, rfl, by decide +kernel, rfl, by decide +kernel, by decide +kernel⟩
def sglaw_is_beside_right_0 (scope : Scope) : Sg := ⟨sglaw_is_beside_right.N, relS scope sglaw_is_beside_right.sc, [8], [8], [], []⟩
def sglaw_is_beside_right_1 (scope : Scope) : Sg := ⟨sglaw_is_beside_right.N, relS scope sglaw_is_beside_right.sc, [8], [8], [], []⟩
def irlaw_is_beside_right : List S := [(.par [(1, false), (2, false)] [(.bin .add (.int 2) (.call 10 [(.var 0), (.int 3)])), (.call 10 [(.var 0), (.int 60)])]),
  (.unp (.tp [(.nm 3), (.nm 4)]) (.call 13 [(.var 1), (.var 2)])),
  (.asgO 5 (.lst [])),
  (.fr (.nm 6) .seq [(.var 3)] [(.ite (.an (.cmp .le (.bor 6) (.int 60)) (.cmp .lt (.bin .add (.bi .len [(.bor 5)]) (.bor 6)) (.int 199)))
  [(.ext 5 (.bin .add (.bin .mul (.lst [.non]) (.bor 6)) (.lst [(.var 6)])))]
  [])]),
  (.asg 7 (.bi .len [(.lc .seq [(.bor 5)] (.nm 8) [8] (.cmp .isN (.bor 8) .non) (.var 8))])),
  (.ret (.call 12 [(.bi .sum [(.call 2 [(.int 0), (.bi .tuple [(.bor 5)])])]), (.bin .add (.bin .mul (.int 2) (.bor 7)) (.bi .len [(.lc .seq [(.bor 5)] (.nm 8) [8] (.cmp .isnN (.bor 8) .non) (.var 8))]))]))]
theorem jlaw_is_beside_right {X : Cx} {k : Nat} {Γ : Gm} (W : Wd X k sglaw_is_beside_right pg Γ) : JSs X Γ (defBody (topS 25)) irlaw_is_beside_right :=
  (W.e1 (W.par2 (W.av (W.je (W.bin .add (W.jb W.int) (W.jb (W.call 10 (W.a W.var (W.a W.int W.n)))))) (W.av (W.call 10 (W.a W.var (W.a W.int W.n))) W.nf)))
  (W.e1 (W.unp (W.call 13 (W.a W.var (W.a W.var W.n))) (W.tt (W.t1 W.tn (W.t1 W.tn W.t0))))
  (W.e1 (W.asgO (W.lst W.n))
  (W.e1 (W.fr (W.seq (b := false) W.var) W.tn
  (W.e1 (W.iff (W.wt (W.an (W.cmpT .le W.bor (W.jb W.int)) (W.oneA (W.cmpT .lt (W.fb (W.bin .add (W.fb (W.bi bLen (W.ab W.bor W.nb))) W.bor)) (W.jb W.int)))))
  (W.e1 (W.ext (W.fb (W.bin .add (W.fb (W.bin .mul (W.fb (W.lst (W.a W.non W.n))) W.bor)) (W.fb (W.lst (W.a W.var W.n))))))
  W.e0)
  W.e0)
  W.e0))
  (W.e1 (W.asg (W.je (W.bi bLen (W.ab (W.fb (W.lc (s' := sglaw_is_beside_right_0 _) (own := [("deed", 8)]) ⟨sg_by (by decide +kernel), rfl, rfl, by decide +kernel, by decide +kernel, by decide +kernel, fun Y W => ⟨W.tn, (W.c1 (W.cmpT .isN W.bor (W.jb W.non))), W.var⟩⟩ (W.seq (b := true) W.bor))) W.nb))))
  (W.e1 (W.ret (W.call 12 (W.a (W.je (W.bi (bSum W) (W.ab (W.jb (W.call 2 (W.a W.int (W.a (W.je (W.bi bTuple (W.ab W.bor W.nb))) W.n)))) W.nb))) (W.a (W.je (W.bin .add (W.fb (W.bin .mul (W.jb W.int) W.bor)) (W.fb (W.bi bLen (W.ab (W.fb (W.lc (s' := sglaw_is_beside_right_1 _) (own := [("deed", 8)]) ⟨sg_by (by decide +kernel), rfl, rfl, by decide +kernel, by decide +kernel, by decide +kernel, fun Y W => ⟨W.tn, (W.c1 (W.cmpT .isnN W.bor (W.jb W.non))), W.var⟩⟩ (W.seq (b := true) W.bor))) W.nb))))) W.n))))
  W.e0))))))
def sglaw_is_most_right : Sg := ⟨["bag", "n", "best", "rows", "turn", "m", "row", "size", "cost"], defScope (topS 26), [0, 1, 2, 3, 4, 5, 6], [0, 1, 2, 3, 4, 5, 6], [], ["_law_draw", "_law_pick", "_law_same", "many_most", "many_run", "max", "range", "set", "sorted", "sum"]⟩
theorem sglaw_is_most_right_ok : SgOk sglaw_is_most_right := sg_by (by decide +kernel)
theorem sclaw_is_most_right : FnScope sglaw_is_most_right.N ["bag"] (defScope (topS 26)) := ⟨rfl, rfl, rfl, by decide +kernel, rfl, by decide +kernel, by decide +kernel⟩
def sglaw_is_most_right_0 (scope : Scope) : Sg := ⟨sglaw_is_most_right.N, relS scope sglaw_is_most_right.sc, [7, 8], [7, 8], [], []⟩
def sglaw_is_most_right_1 (scope : Scope) : Sg := ⟨sglaw_is_most_right.N, relS scope sglaw_is_most_right.sc, [7, 8], [7, 8], [], []⟩
def sglaw_is_most_right_2 (scope : Scope) : Sg := ⟨sglaw_is_most_right.N, relS scope sglaw_is_most_right.sc, [7, 8], [7, 8], [], []⟩
def irlaw_is_most_right : List S := [(.asg 1 (.call 10 [(.var 0), (.int 9)])),
  (.par [(2, false), (3, false)] [(.int 0), (.lst [(.tup [(.int 0), (.int 0)])])]),
  (.fr (.nm 4) .rng [(.var 1)] [(.asg 3 (.bi .sset [(.bin .add (.lc .seq [(.bor 3)] (.tp [(.nm 7), (.nm 8)]) [7, 8] (.bl true) (.tup [(.bin .add (.bor 7) (.int 1)), (.bin .add (.bor 8) (.int 1))])) (.lc .seq [(.bor 3)] (.tp [(.nm 7), (.nm 8)]) [7, 8] (.bl true) (.tup [(.int 0), (.bin .add (.bin .add (.bor 8) (.int 1)) (.bor 7))])))])),
  (.asg 2 (.bi .max [(.lc .seq [(.bor 3)] (.tp [(.nm 7), (.nm 8)]) [7, 8] (.bl true) (.var 8))]))]),
  (.ite (.nt (.call 12 [(.tup [(.call 3 [(.var 1)]), (.calk 3 [(.var 1)] [0])]), (.tup [(.var 2), (.var 2)])]))
  [(.ret (.bl false))]
  []),
  (.asg 5 (.call 11 [(.var 0), (.lst [(.int 60), (.int 1), (.bin .add (.int 1) (.call 10 [(.var 0), (.int 60)]))])])),
  (.asg 6 (.bin .add (.bin .mul (.tup [.non]) (.bin .sub (.bor 5) (.int 1))) (.tup [(.int 60)]))),
  (.ret (.call 12 [(.tup [(.call 3 [(.var 5)]), (.bi .sum [(.call 2 [(.int 0), (.var 6)])])]), (.tup [(.bin .sub (.bin .mul (.int 2) (.bor 5)) (.int 1)), (.bin .sub (.bin .mul (.int 2) (.bor 5)) (.int 1))])]))]
theorem jlaw_is_most_right {X : Cx} {k : Nat} {Γ : Gm} (W : Wd X k sglaw_is_most_right pg Γ) : JSs X Γ (defBody (topS 26)) irlaw_is_most_right :=
  (W.e1 (W.asg (W.call 10 (W.a W.var (W.a W.int W.n))))
  (W.e1 (W.par2 (W.av W.int (W.av (W.je (W.lst (W.a (W.je (W.tup (W.a W.int (W.a W.int W.n)))) W.n))) W.nf)))
  (W.e1 (W.fr (W.rng1 (b := false) (W.a W.var W.n)) W.tn
  (W.e1 (W.asg (W.je (W.sset (W.fb (W.bin .add (W.fb (W.lc (s' := sglaw_is_most_right_0 _) (own := [("size", 7), ("cost", 8)]) ⟨sg_by (by decide +kernel), rfl, rfl, by decide +kernel, by decide +kernel, by decide +kernel, fun Y W => ⟨(W.tt (W.t1 W.tn (W.t1 W.tn W.t0))), W.c0, (W.je (W.tup (W.a (W.je (W.bin .add W.bor (W.jb W.int))) (W.a (W.je (W.bin .add W.bor (W.jb W.int))) W.n))))⟩⟩ (W.seq (b := true) W.bor))) (W.fb (W.lc (s' := sglaw_is_most_right_1 _) (own := [("size", 7), ("cost", 8)]) ⟨sg_by (by decide +kernel), rfl, rfl, by decide +kernel, by decide +kernel, by decide +kernel, fun Y W => ⟨(W.tt (W.t1 W.tn (W.t1 W.tn W.t0))), W.c0, (W.je (W.tup (W.a W.int (W.a (W.je (W.bin .add (W.fb (W.bin .add W.bor (W.jb W.int))) W.bor)) W.n))))⟩⟩ (W.seq (b := true) W.bor))))))))
  (W.e1 (W.asg (W.je (W.bi (bMax W) (W.ab (W.fb (W.lc (s' := sglaw_is_most_right_2 _) (own := [("size", 7), ("cost", 8)]) ⟨sg_by (by decide +kernel), rfl, rfl, by decide +kernel, by decide +kernel, by decide +kernel, fun Y W => ⟨(W.tt (W.t1 W.tn (W.t1 W.tn W.t0))), W.c0, W.var⟩⟩ (W.seq (b := true) W.bor))) W.nb))))
  W.e0)))
  (W.e1 (W.iff (W.nt (W.tstE (W.call 12 (W.a (W.je (W.tup (W.a (W.call 3 (W.a W.var W.n)) (W.a (W.calk0 3 0 (W.ak W.var W.nk)) W.n)))) (W.a (W.je (W.tup (W.a W.var (W.a W.var W.n)))) W.n)))))
  (W.e1 (W.ret W.bl)
  W.e0)
  W.e0)
  (W.e1 (W.asg (W.call 11 (W.a W.var (W.a (W.je (W.lst (W.a W.int (W.a W.int (W.a (W.je (W.bin .add (W.jb W.int) (W.jb (W.call 10 (W.a W.var (W.a W.int W.n)))))) W.n))))) W.n))))
  (W.e1 (W.asg (W.je (W.bin .add (W.fb (W.bin .mul (W.fb (W.tup (W.a W.non W.n))) (W.fb (W.bin .sub W.bor (W.jb W.int))))) (W.fb (W.tup (W.a W.int W.n))))))
  (W.e1 (W.ret (W.call 12 (W.a (W.je (W.tup (W.a (W.call 3 (W.a W.var W.n)) (W.a (W.je (W.bi (bSum W) (W.ab (W.jb (W.call 2 (W.a W.int (W.a W.var W.n)))) W.nb))) W.n)))) (W.a (W.je (W.tup (W.a (W.je (W.bin .sub (W.fb (W.bin .mul (W.jb W.int) W.bor)) (W.jb W.int))) (W.a (W.je (W.bin .sub (W.fb (W.bin .mul (W.jb W.int) W.bor)) (W.jb W.int))) W.n)))) W.n))))
  W.e0)))))))
def sglawR : Sg := ⟨["script", "bag", "turn"], defScope (topS 27), [0, 1, 2], [0, 1, 2], [], ["_law_is_beside_right", "_law_is_growing_right", "_law_is_most_right", "_law_is_stack_right", "_law_own_bag", "_law_same", "adding_costs", "many_run", "range"]⟩
theorem sglawR_ok : SgOk sglawR := sg_by (by decide +kernel)
def irlawR : List S := [(.fr (.nm 2) .rng [(.int 3)] [(.ite (.or (.nt (.call 14 [(.var 1)])) (.or (.nt (.call 17 [(.var 1)])) (.nt (.call 17 [(.var 1)]))))
  [(.ret (.bl false))]
  []),
  (.ite (.or (.nt (.call 18 [(.var 1)])) (.nt (.call 19 [(.var 1)])))
  [(.ret (.bl false))]
  [])]),
  (.ret (.call 12 [(.tup [(.call 2 [(.int 0), (.tup [.non, .non, .non, (.int 2), (.int 5), .non, (.int 0)])]), (.call 9 [(.int 5), (.int 20)])]), (.tup [(.tup [(.int 1), (.int 1), (.int 1), (.int 3), (.int 2), (.int 1), (.int 1)]), (.int 54)])]))]
theorem jlawR {X : Cx} {k : Nat} {Γ : Gm} (W : Wd X k sglawR pg Γ) : JSs X Γ ((defBody (topS 27)).drop 1) irlawR :=
  (W.e1 (W.fr (W.rng1 (b := false) (W.a W.int W.n)) W.tn
  (W.e1 (W.iff (W.wt (W.or (W.nt (W.tstE (W.call 14 (W.a W.var W.n)))) (W.or (W.nt (W.tstE (W.call 17 (W.a W.var W.n)))) (W.oneO (W.nt (W.tstE (W.call 17 (W.a W.var W.n))))))))
  (W.e1 (W.ret W.bl)
  W.e0)
  W.e0)
  (W.e1 (W.iff (W.wt (W.or (W.nt (W.tstE (W.call 18 (W.a W.var W.n)))) (W.oneO (W.nt (W.tstE (W.call 19 (W.a W.var W.n)))))))
  (W.e1 (W.ret W.bl)
  W.e0)
  W.e0)
  W.e0)))
  (W.e1 (W.ret (W.call 12 (W.a (W.je (W.tup (W.a (W.call 2 (W.a W.int (W.a (W.je (W.tup (W.a W.non (W.a W.non (W.a W.non (W.a W.int (W.a W.int (W.a W.non (W.a W.int W.n))))))))) W.n))) (W.a (W.call 9 (W.a W.int (W.a W.int W.n))) W.n)))) (W.a (W.je (W.tup (W.a (W.je (W.tup (W.a W.int (W.a W.int (W.a W.int (W.a W.int (W.a W.int (W.a W.int (W.a W.int W.n))))))))) (W.a W.int W.n)))) W.n))))
  W.e0))
end K72


set_option autoImplicit false
namespace K72
open TL
/-! ### the mathematics -/
def dd : Option Int → D
  | none => .non
  | some d => .int d
def after (s : Int) : Option Int → Int
  | none => s + 1
  | some d => if s - d > 0 then s - d else 0
def cost (s : Int) : Option Int → Int
  | none => 1
  | some d => 1 + (if d < s then d else s)
def runC : Int → List (Option Int) → List Int
  | _, [] => []
  | s, d :: r => cost s d :: runC (after s d) r
def runS : Int → List (Option Int) → Int
  | s, [] => s
  | s, d :: r => runS (after s d) r
theorem runC_append : ∀ (s : Int) (a b : List (Option Int)), runC s (a ++ b) = runC s a ++ runC (runS s a) b
  | _, [], _ => rfl
  | s, d :: a, b => by simp [runC, runS, runC_append (after s d) a b]
theorem runS_append : ∀ (s : Int) (a b : List (Option Int)), runS s (a ++ b) = runS (runS s a) b
  | _, [], _ => rfl
  | s, d :: a, b => by simp [runS, runS_append (after s d) a b]
theorem runC_len : ∀ (s : Int) (l : List (Option Int)), (runC s l).length = l.length
  | _, [] => rfl
  | s, d :: r => by simp [runC, runC_len (after s d) r]
def room (g n : Int) : Nat → Int
  | 0 => 1
  | t + 1 => if room g n t < n then g * room g n t else room g n t
def over (g n : Int) : Nat → List Int
  | 0 => []
  | t + 1 => if room g n t < n then over g n t ++ [room g n t] else over g n t
def dcost (g n : Int) : Int := if n = 0 then 0 else n + (room g n 20 - 1) / (g - 1)
def addc (k n : Int) : Int := if n = 0 then 0 else n + (n - 1 + k - 1) / k + k * (((n - 1 + k - 1) / k) * ((n - 1 + k - 1) / k - 1) / 2)
/-! ### what each def promises -/
def S0 : Sm := fun ds B Q => ∃ s d, ds = [.int s, dd d] ∧ Q (.int (after s d)) B
def S1 : Sm := fun ds B Q => ∃ s d, ds = [.int s, dd d] ∧ Q (.int (cost s d)) B
def S2 : Sm := fun ds B Q => ∃ s l, ds = [.int s, .tup (l.map dd)] ∧ l.length ≤ 10000 ∧ Q (.tup ((runC s l).map D.int)) B
def S3 : Sm := fun ds B Q => ∃ n : Int, ds = [.int n] ∧ Q (.int (if n = 0 then 0 else 2 * n - 1)) B
def S4 : Sm := fun ds B Q => ∃ a b : Int, ds = [.int a, .int b] ∧ 0 < b ∧ b < 1000000000 ∧ ∀ p q : Int, 0 < q → q ≤ b → p * b = a * q → Q (.tup [.int p, .int q]) B
def S5 : Sm := fun ds B Q => ∃ g n : Int, ds = [.int g, .int n] ∧ 2 ≤ g ∧ g ≤ 8 ∧ Q (.int (room g n 20)) B
def S6 : Sm := fun ds B Q => ∃ g n : Int, ds = [.int g, .int n] ∧ 2 ≤ g ∧ g ≤ 8 ∧ Q (.int (dcost g n)) B
def S7 : Sm := fun ds B Q => ∃ g : Int, ds = [.int g] ∧ 2 ≤ g ∧ g ≤ 8 ∧ ∀ p q : Int, 0 < q → q ≤ g - 1 → p * (g - 1) = (2 * g - 1) * q → Q (.tup [.int p, .int q]) B
def S8 : Sm := fun ds B Q => ∃ g n : Int, ds = [.int g, .int n] ∧ 2 ≤ g ∧ g ≤ 8 ∧ 0 < n ∧ n < 1000000000 ∧ ∀ p q : Int, 0 < q → q ≤ n → p * n = dcost g n * q → Q (.tup [.int p, .int q]) B
def S9 : Sm := fun ds B Q => ∃ k n : Int, ds = [.int k, .int n] ∧ 1 ≤ k ∧ k ≤ 1000 ∧ 0 ≤ n ∧ n ≤ 100000 ∧ Q (.int (addc k n)) B
def S13 : Sm := fun ds B Q => ∃ g n : Int, ds = [.int g, .int n] ∧ 2 ≤ g ∧ g ≤ 8 ∧ Q (.tup [.lst ((over g n 25).map D.int), .int (room g n 25)]) B
def S15 : Sm := fun ds B Q => ∃ s l, ds = [.int s, .tup (l.map dd)] ∧ l.length ≤ 10000 ∧ Q (.lst [.tup ((runC s l).map D.int), .int (runS s l)]) B
def S16 : Sm := fun ds B Q => ∃ s : Int, ds = [.bag, .int s] ∧ 0 ≤ s ∧ s ≤ 1000 ∧ ∀ (l : List (Option Int)) (B' : Bag), l.length ≤ 1000 → (∀ d : Int, some d ∈ l → 0 ≤ d) → Q (.tup (l.map dd)) B'
/-- a test that holds, whatever is drawn -/
def SB : Sm := fun ds B Q => ds = [.bag] ∧ ∀ B', Q (.bl true) B'
def Γ : Gm := fun i => match i with
  | 0 => S0 | 1 => S1 | 2 => S2 | 3 => S3 | 4 => S4 | 5 => S5 | 6 => S6 | 7 => S7 | 8 => S8 | 9 => S9 | 10 => semDraw | 11 => semPick | 12 => semSame 4 | 13 => S13 | 14 => SB | 15 => S15 | 16 => S16 | 17 => SB | 18 => SB | 19 => SB
  | _ => bad
theorem Γ_mono : GMono Γ := fun i ds B Q Q' h q => by
  match i, q with
  | 0, ⟨s, d, e, k⟩ => exact ⟨s, d, e, h _ _ k⟩
  | 1, ⟨s, d, e, k⟩ => exact ⟨s, d, e, h _ _ k⟩
  | 2, ⟨s, d, e, l, k⟩ => exact ⟨s, d, e, l, h _ _ k⟩
  | 3, ⟨n, e, k⟩ => exact ⟨n, e, h _ _ k⟩
  | 4, ⟨a, b, e, h1, h2, k⟩ => exact ⟨a, b, e, h1, h2, fun p q x y z => h _ _ (k p q x y z)⟩
  | 5, ⟨a, b, e, h1, h2, k⟩ => exact ⟨a, b, e, h1, h2, h _ _ k⟩
  | 6, ⟨a, b, e, h1, h2, k⟩ => exact ⟨a, b, e, h1, h2, h _ _ k⟩
  | 7, ⟨a, e, h1, h2, k⟩ => exact ⟨a, e, h1, h2, fun p q x y z => h _ _ (k p q x y z)⟩
  | 8, ⟨a, b, e, h1, h2, h3, h4, k⟩ => exact ⟨a, b, e, h1, h2, h3, h4, fun p q x y z => h _ _ (k p q x y z)⟩
  | 9, ⟨a, b, e, h1, h2, h3, h4, k⟩ => exact ⟨a, b, e, h1, h2, h3, h4, h _ _ k⟩
  | 10, q => exact draw_mono ds B Q Q' h q
  | 11, q => exact pick_mono ds B Q Q' h q
  | 12, q => exact same_mono 4 ds B Q Q' h q
  | 13, ⟨a, b, e, h1, h2, k⟩ => exact ⟨a, b, e, h1, h2, h _ _ k⟩
  | 14, ⟨e, k⟩ => exact ⟨e, fun B' => h _ _ (k B')⟩
  | 15, ⟨s, d, e, l, k⟩ => exact ⟨s, d, e, l, h _ _ k⟩
  | 16, ⟨s, e, h1, h2, k⟩ => exact ⟨s, e, h1, h2, fun l B' x y => h _ _ (k l B' x y)⟩
  | 17, ⟨e, k⟩ => exact ⟨e, fun B' => h _ _ (k B')⟩
  | 18, ⟨e, k⟩ => exact ⟨e, fun B' => h _ _ (k B')⟩
  | 19, ⟨e, k⟩ => exact ⟨e, fun B' => h _ _ (k B')⟩
/-! ### each def's text -/
theorem get_map {l : List (Option Int)} {i : Nat} {x : D} (h : (l.map dd)[i]? = some x) : ∃ d, l[i]? = some d ∧ x = dd d := by
  rw [List.getElem?_map] at h
  cases e : l[i]? with
  | none => rw [e] at h; cases h
  | some d => rw [e] at h; cases h; exact ⟨d, rfl, rfl⟩
theorem take_one {α : Type} {l : List α} {i : Nat} {d : α} (h : l[i]? = some d) : l.take (i + 1) = l.take i ++ [d] := by
  rw [List.take_add_one, h]
  rfl
theorem wp_many_after (ds : List D) (B : Bag) (Q : D → Bag → Prop) (h : Γ 0 ds B Q) : wpFn (cut 0 Γ) sgmany_after.N.length irmany_after ds B Q := by
  obtain ⟨s, d, rfl, q⟩ := h
  unfold wpFn irmany_after
  cases d <;> simpa only [s_asg, s_asgO, s_unp, s_par, s_app, s_ext, s_seti, s_ex, s_ite, s_ret, s_retN, s_brk, s_cnt, s_pas, s_nvr, s_frz, s_mov, s_bpop, s_bset, wpE, wpEs, getV, getB, getO, bnd_some, tst_bl, binD, addD, subD, mulD, int2, cmpD, ordD, biD, one, extD, atD, bindT, bindTs, parT, ownS, iterD, itemsOf, partD, absE, sliD, revD, isTy, isNon, permD, List.set_cons_zero, List.set_cons_succ, List.getD_cons_zero, List.getD_cons_succ, frzS, frz1, wipeS, List.modify_zero_cons, List.modify_succ_cons, Bool.true_eq_false, Bool.false_eq_true, if_true, if_false, ite_true, ite_false, reduceIte, List.replicate, Nat.add_zero, Nat.zero_add, if_pos, Nat.one_ne_zero, Nat.reduceEqDiff, reduceCtorEq, decide_eq_true_eq, eqD, eqDs, ty_beq, decide_true, decide_false, Bool.not_true, Bool.not_false, wps_cons, wps_nil, List.map_cons, List.map_nil, List.cons_append, List.nil_append, Bool.and_true, Bool.true_and, Bool.and_false, Bool.false_and, not_true_eq_false, not_false_eq_true, List.length_cons, List.length_nil, at_0, at_1, at_2, at_3, dd, after] using q
theorem wp_many_cost (ds : List D) (B : Bag) (Q : D → Bag → Prop) (h : Γ 1 ds B Q) : wpFn (cut 1 Γ) sgmany_cost.N.length irmany_cost ds B Q := by
  obtain ⟨s, d, rfl, q⟩ := h
  unfold wpFn irmany_cost
  cases d <;> simpa only [s_asg, s_asgO, s_unp, s_par, s_app, s_ext, s_seti, s_ex, s_ite, s_ret, s_retN, s_brk, s_cnt, s_pas, s_nvr, s_frz, s_mov, s_bpop, s_bset, wpE, wpEs, getV, getB, getO, bnd_some, tst_bl, binD, addD, subD, mulD, int2, cmpD, ordD, biD, one, extD, atD, bindT, bindTs, parT, ownS, iterD, itemsOf, partD, absE, sliD, revD, isTy, isNon, permD, List.set_cons_zero, List.set_cons_succ, List.getD_cons_zero, List.getD_cons_succ, frzS, frz1, wipeS, List.modify_zero_cons, List.modify_succ_cons, Bool.true_eq_false, Bool.false_eq_true, if_true, if_false, ite_true, ite_false, reduceIte, List.replicate, Nat.add_zero, Nat.zero_add, if_pos, Nat.one_ne_zero, Nat.reduceEqDiff, reduceCtorEq, decide_eq_true_eq, eqD, eqDs, ty_beq, decide_true, decide_false, Bool.not_true, Bool.not_false, wps_cons, wps_nil, List.map_cons, List.map_nil, List.cons_append, List.nil_append, Bool.and_true, Bool.true_and, Bool.and_false, Bool.false_and, not_true_eq_false, not_false_eq_true, List.length_cons, List.length_nil, at_0, at_1, at_2, at_3, dd, cost] using q
theorem wp_many_run (ds : List D) (B : Bag) (Q : D → Bag → Prop) (h : Γ 2 ds B Q) : wpFn (cut 2 Γ) sgmany_run.N.length irmany_run ds B Q := by
  obtain ⟨s, l, rfl, hl, q⟩ := h
  have G := cut_mono (m := 2) Γ_mono
  have h0 : cut 2 Γ 0 = S0 := rfl
  have h1 : cut 2 Γ 1 = S1 := rfl
  unfold wpFn irmany_run
  rw [show sgmany_run.N.length = 5 from rfl]
  rw [wps_cons]
  simp only [wpS, wpE, wpEs, getV, bnd_some, parT, ownS, List.map_cons, List.map_nil, List.length_cons, List.length_nil, List.replicate, List.cons_append, List.nil_append, List.set_cons_zero, List.set_cons_succ]
  rw [wps_cons]
  refine wp_for G ?_
  simp only [s_asg, s_asgO, s_unp, s_par, s_app, s_ext, s_seti, s_ex, s_ite, s_ret, s_retN, s_brk, s_cnt, s_pas, s_nvr, s_frz, s_mov, s_bpop, s_bset, wpE, wpEs, getV, getB, getO, bnd_some, tst_bl, binD, addD, subD, mulD, int2, cmpD, ordD, biD, one, extD, atD, bindT, bindTs, parT, ownS, iterD, itemsOf, partD, absE, sliD, revD, isTy, isNon, permD, List.set_cons_zero, List.set_cons_succ, List.getD_cons_zero, List.getD_cons_succ, frzS, frz1, wipeS, List.modify_zero_cons, List.modify_succ_cons, Bool.true_eq_false, Bool.false_eq_true, if_true, if_false, ite_true, ite_false, reduceIte, List.replicate, Nat.add_zero, Nat.zero_add, if_pos, Nat.one_ne_zero, Nat.reduceEqDiff, reduceCtorEq, decide_eq_true_eq, eqD, eqDs, ty_beq, decide_true, decide_false, Bool.not_true, Bool.not_false, wps_cons, wps_nil, List.map_cons, List.map_nil, List.cons_append, List.nil_append, Bool.and_true, Bool.true_and, Bool.and_false, Bool.false_and, not_true_eq_false, not_false_eq_true, List.length_cons, List.length_nil, at_0, at_1, at_2, at_3]
  refine ⟨fun i σ B' => B' = B ∧ ∃ s4, σ = [.va (.int s), .va (.tup (l.map dd)), .va (.int (runS s (l.take i))), .ow ((runC s (l.take i)).map D.int), s4], ⟨rfl, .no, rfl⟩, ?_, ?_⟩
  · rintro i x σ B' hx ⟨rfl, s4, rfl⟩
    simp only [s_asg, s_asgO, s_unp, s_par, s_app, s_ext, s_seti, s_ex, s_ite, s_ret, s_retN, s_brk, s_cnt, s_pas, s_nvr, s_frz, s_mov, s_bpop, s_bset, wpE, wpEs, getV, getB, getO, bnd_some, tst_bl, binD, addD, subD, mulD, int2, cmpD, ordD, biD, one, extD, atD, bindT, bindTs, parT, ownS, iterD, itemsOf, partD, absE, sliD, revD, isTy, isNon, permD, List.set_cons_zero, List.set_cons_succ, List.getD_cons_zero, List.getD_cons_succ, frzS, frz1, wipeS, List.modify_zero_cons, List.modify_succ_cons, Bool.true_eq_false, Bool.false_eq_true, if_true, if_false, ite_true, ite_false, reduceIte, List.replicate, Nat.add_zero, Nat.zero_add, if_pos, Nat.one_ne_zero, Nat.reduceEqDiff, reduceCtorEq, decide_eq_true_eq, eqD, eqDs, ty_beq, decide_true, decide_false, Bool.not_true, Bool.not_false, wps_cons, wps_nil, List.map_cons, List.map_nil, List.cons_append, List.nil_append, Bool.and_true, Bool.true_and, Bool.and_false, Bool.false_and, not_true_eq_false, not_false_eq_true, List.length_cons, List.length_nil, at_0, at_1, at_2, at_3, h0, h1]
    obtain ⟨d, hd, rfl⟩ := get_map hx
    have ht := take_one hd
    refine ⟨_, d, rfl, ?_, _, d, rfl, rfl, .va (dd d), ?_⟩
    · rw [List.length_map, runC_len, List.length_take]
      unfold LIM; omega
    · rw [ht, runC_append, runS_append, List.map_append]
      rfl
  · rintro σ B' ⟨rfl, s4, rfl⟩
    simp only [s_asg, s_asgO, s_unp, s_par, s_app, s_ext, s_seti, s_ex, s_ite, s_ret, s_retN, s_brk, s_cnt, s_pas, s_nvr, s_frz, s_mov, s_bpop, s_bset, wpE, wpEs, getV, getB, getO, bnd_some, tst_bl, binD, addD, subD, mulD, int2, cmpD, ordD, biD, one, extD, atD, bindT, bindTs, parT, ownS, iterD, itemsOf, partD, absE, sliD, revD, isTy, isNon, permD, List.set_cons_zero, List.set_cons_succ, List.getD_cons_zero, List.getD_cons_succ, frzS, frz1, wipeS, List.modify_zero_cons, List.modify_succ_cons, Bool.true_eq_false, Bool.false_eq_true, if_true, if_false, ite_true, ite_false, reduceIte, List.replicate, Nat.add_zero, Nat.zero_add, if_pos, Nat.one_ne_zero, Nat.reduceEqDiff, reduceCtorEq, decide_eq_true_eq, eqD, eqDs, ty_beq, decide_true, decide_false, Bool.not_true, Bool.not_false, wps_cons, wps_nil, List.map_cons, List.map_nil, List.cons_append, List.nil_append, Bool.and_true, Bool.true_and, Bool.and_false, Bool.false_and, not_true_eq_false, not_false_eq_true, List.length_cons, List.length_nil, at_0, at_1, at_2, at_3]
    rw [List.length_map, List.take_length]
    exact q
theorem wp_many_most (ds : List D) (B : Bag) (Q : D → Bag → Prop) (h : Γ 3 ds B Q) : wpFn (cut 3 Γ) sgmany_most.N.length irmany_most ds B Q := by
  obtain ⟨n, rfl, q⟩ := h
  unfold wpFn irmany_most
  simp only [s_asg, s_asgO, s_unp, s_par, s_app, s_ext, s_seti, s_ex, s_ite, s_ret, s_retN, s_brk, s_cnt, s_pas, s_nvr, s_frz, s_mov, s_bpop, s_bset, wpE, wpEs, getV, getB, getO, bnd_some, tst_bl, binD, addD, subD, mulD, int2, cmpD, ordD, biD, one, extD, atD, bindT, bindTs, parT, ownS, iterD, itemsOf, partD, absE, sliD, revD, isTy, isNon, permD, List.set_cons_zero, List.set_cons_succ, List.getD_cons_zero, List.getD_cons_succ, frzS, frz1, wipeS, List.modify_zero_cons, List.modify_succ_cons, Bool.true_eq_false, Bool.false_eq_true, if_true, if_false, ite_true, ite_false, reduceIte, List.replicate, Nat.add_zero, Nat.zero_add, if_pos, Nat.one_ne_zero, Nat.reduceEqDiff, reduceCtorEq, decide_eq_true_eq, eqD, eqDs, ty_beq, decide_true, decide_false, Bool.not_true, Bool.not_false, wps_cons, wps_nil, List.map_cons, List.map_nil, List.cons_append, List.nil_append, Bool.and_true, Bool.true_and, Bool.and_false, Bool.false_and, not_true_eq_false, not_false_eq_true, List.length_cons, List.length_nil, at_0, at_1, at_2, at_3]
  refine ⟨⟨rfl, rfl⟩, ?_⟩
  split
  · rename_i e; rw [if_pos e] at q; exact q
  · rename_i e; rw [if_neg e] at q
    exact ⟨mulOk_l (by decide), q⟩
theorem wp_lowest (ds : List D) (B : Bag) (Q : D → Bag → Prop) (h : Γ 4 ds B Q) : wpFn (cut 4 Γ) sglowest.N.length irlowest ds B Q := by
  obtain ⟨a, b, rfl, hb, hb2, q⟩ := h
  have G := cut_mono (m := 4) Γ_mono
  unfold wpFn irlowest
  rw [show sglowest.N.length = 4 from rfl]
  rw [wps_cons]
  simp only [wpS, wpE, wpEs, getV, getB, bnd_some, biD, one, parT, ownS, List.map_cons, List.map_nil, List.length_cons, List.length_nil, List.replicate, List.cons_append, List.nil_append, List.set_cons_zero, List.set_cons_succ]
  rw [wps_cons]
  refine wp_whl G (fun m σ B' => B' = B ∧ ∃ x y : Nat, (y : Int) ≤ b ∧ Nat.gcd x y = Nat.gcd a.natAbs b.natAbs ∧ y = m ∧ σ = [.va (.int a), .va (.int b), .va (.int x), .va (.int y)]) b.toNat ⟨rfl, a.natAbs, b.toNat, by omega, ?_, rfl, ?_⟩ ?_
  · rw [show b.toNat = b.natAbs by omega]
  · have e1 : (if a < 0 then -a else a) = (a.natAbs : Int) := by split <;> omega
    have e2 : b = (b.toNat : Int) := by omega
    rw [e1, ← e2]
  · rintro m σ B' ⟨rfl, x, y, hyb, hg, rfl, rfl⟩
    simp only [s_asg, s_asgO, s_unp, s_par, s_app, s_ext, s_seti, s_ex, s_ite, s_ret, s_retN, s_brk, s_cnt, s_pas, s_nvr, s_frz, s_mov, s_bpop, s_bset, wpE, wpEs, getV, getB, getO, bnd_some, tst_bl, binD, addD, subD, mulD, int2, cmpD, ordD, biD, one, extD, atD, bindT, bindTs, parT, ownS, iterD, itemsOf, partD, absE, sliD, revD, isTy, isNon, permD, List.set_cons_zero, List.set_cons_succ, List.getD_cons_zero, List.getD_cons_succ, frzS, frz1, wipeS, List.modify_zero_cons, List.modify_succ_cons, Bool.true_eq_false, Bool.false_eq_true, if_true, if_false, ite_true, ite_false, reduceIte, List.replicate, Nat.add_zero, Nat.zero_add, if_pos, Nat.one_ne_zero, Nat.reduceEqDiff, reduceCtorEq, decide_eq_true_eq, eqD, eqDs, ty_beq, decide_true, decide_false, Bool.not_true, Bool.not_false, wps_cons, wps_nil, List.map_cons, List.map_nil, List.cons_append, List.nil_append, Bool.and_true, Bool.true_and, Bool.and_false, Bool.false_and, not_true_eq_false, not_false_eq_true, List.length_cons, List.length_nil, at_0, at_1, at_2, at_3]
    refine ⟨⟨rfl, rfl⟩, ?_⟩
    refine iteI (fun hy => ?_) (fun hy => ?_)
    rotate_left
    · have hy : y = 0 := by simpa using hy
      subst hy
      rw [Nat.gcd_zero_right] at hg
      have hx : 0 < x := by
        rw [hg]
        exact Nat.gcd_pos_of_pos_right _ (by omega)
      have hxb : x ≤ b.natAbs := by
        rw [hg]
        exact Nat.gcd_le_right _ (by omega)
      have da : (x : Int) ∣ a := Int.ofNat_dvd_left.mpr (by rw [hg]; exact Nat.gcd_dvd_left ..)
      have db : (x : Int) ∣ b := Int.ofNat_dvd_left.mpr (by rw [hg]; exact Nat.gcd_dvd_right ..)
      obtain ⟨c, rfl⟩ := da
      obtain ⟨e, rfl⟩ := db
      have hx0 : (x : Int) ≠ 0 := by omega
      have dk : divOk (x : Int) := divOk_of (by omega) (by omega)
      refine ⟨dk, dk, q _ _ ?_ ?_ ?_⟩
      · rw [Int.mul_ediv_cancel_left _ hx0]
        exact Int.pos_of_mul_pos_right hb (by omega)
      · exact Int.ediv_le_self _ (by omega)
      · rw [Int.mul_ediv_cancel_left _ hx0, Int.mul_ediv_cancel_left _ hx0]
        simp only [Int.mul_comm, Int.mul_left_comm, Int.mul_assoc]
    · have hy : ¬ y = 0 := by simpa using hy
      refine ⟨by omega, x % y, Nat.mod_lt _ (by omega), trivial, y, x % y, ?_, ?_, rfl, ?_⟩
      · have := Nat.mod_lt x (show 0 < y by omega)
        omega
      · rw [← hg, Nat.gcd_comm y, ← Nat.gcd_rec, Nat.gcd_comm]
      · rw [Int.natCast_emod]
theorem wp_doubling_room (ds : List D) (B : Bag) (Q : D → Bag → Prop) (h : Γ 5 ds B Q) : wpFn (cut 5 Γ) sgdoubling_room.N.length irdoubling_room ds B Q := by
  obtain ⟨g, n, rfl, h1, h2, q⟩ := h
  have G := cut_mono (m := 5) Γ_mono
  unfold wpFn irdoubling_room
  rw [show sgdoubling_room.N.length = 4 from rfl]
  rw [wps_cons]
  simp only [wpS, wpE, List.map_cons, List.map_nil, List.length_cons, List.length_nil, List.replicate, List.cons_append, List.nil_append, List.set_cons_zero, List.set_cons_succ]
  rw [wps_cons]
  refine wp_for G ?_
  simp only [s_asg, s_asgO, s_unp, s_par, s_app, s_ext, s_seti, s_ex, s_ite, s_ret, s_retN, s_brk, s_cnt, s_pas, s_nvr, s_frz, s_mov, s_bpop, s_bset, wpE, wpEs, getV, getB, getO, bnd_some, tst_bl, binD, addD, subD, mulD, int2, cmpD, ordD, biD, one, extD, atD, bindT, bindTs, parT, ownS, iterD, itemsOf, partD, absE, sliD, revD, isTy, isNon, permD, List.set_cons_zero, List.set_cons_succ, List.getD_cons_zero, List.getD_cons_succ, frzS, frz1, wipeS, List.modify_zero_cons, List.modify_succ_cons, Bool.true_eq_false, Bool.false_eq_true, if_true, if_false, ite_true, ite_false, reduceIte, List.replicate, Nat.add_zero, Nat.zero_add, if_pos, Nat.one_ne_zero, Nat.reduceEqDiff, reduceCtorEq, decide_eq_true_eq, eqD, eqDs, ty_beq, decide_true, decide_false, Bool.not_true, Bool.not_false, wps_cons, wps_nil, List.map_cons, List.map_nil, List.cons_append, List.nil_append, Bool.and_true, Bool.true_and, Bool.and_false, Bool.false_and, not_true_eq_false, not_false_eq_true, List.length_cons, List.length_nil, at_0, at_1, at_2, at_3]
  refine ⟨⟨by decide, by decide⟩, fun i σ B' => B' = B ∧ ∃ s4, σ = [.va (.int g), .va (.int n), .va (.int (room g n i)), s4], ⟨rfl, .no, rfl⟩, ?_, ?_⟩
  · rintro i x σ B' hx ⟨rfl, s4, rfl⟩
    simp only [s_asg, s_asgO, s_unp, s_par, s_app, s_ext, s_seti, s_ex, s_ite, s_ret, s_retN, s_brk, s_cnt, s_pas, s_nvr, s_frz, s_mov, s_bpop, s_bset, wpE, wpEs, getV, getB, getO, bnd_some, tst_bl, binD, addD, subD, mulD, int2, cmpD, ordD, biD, one, extD, atD, bindT, bindTs, parT, ownS, iterD, itemsOf, partD, absE, sliD, revD, isTy, isNon, permD, List.set_cons_zero, List.set_cons_succ, List.getD_cons_zero, List.getD_cons_succ, frzS, frz1, wipeS, List.modify_zero_cons, List.modify_succ_cons, Bool.true_eq_false, Bool.false_eq_true, if_true, if_false, ite_true, ite_false, reduceIte, List.replicate, Nat.add_zero, Nat.zero_add, if_pos, Nat.one_ne_zero, Nat.reduceEqDiff, reduceCtorEq, decide_eq_true_eq, eqD, eqDs, ty_beq, decide_true, decide_false, Bool.not_true, Bool.not_false, wps_cons, wps_nil, List.map_cons, List.map_nil, List.cons_append, List.nil_append, Bool.and_true, Bool.true_and, Bool.and_false, Bool.false_and, not_true_eq_false, not_false_eq_true, List.length_cons, List.length_nil, at_0, at_1, at_2, at_3]
    split
    · rename_i e
      exact ⟨mulOk_l (by omega), trivial, _, by rw [room, if_pos e]⟩
    · rename_i e
      exact ⟨trivial, _, by rw [room, if_neg e]⟩
  · rintro σ B' ⟨rfl, s4, rfl⟩
    simp only [s_asg, s_asgO, s_unp, s_par, s_app, s_ext, s_seti, s_ex, s_ite, s_ret, s_retN, s_brk, s_cnt, s_pas, s_nvr, s_frz, s_mov, s_bpop, s_bset, wpE, wpEs, getV, getB, getO, bnd_some, tst_bl, binD, addD, subD, mulD, int2, cmpD, ordD, biD, one, extD, atD, bindT, bindTs, parT, ownS, iterD, itemsOf, partD, absE, sliD, revD, isTy, isNon, permD, List.set_cons_zero, List.set_cons_succ, List.getD_cons_zero, List.getD_cons_succ, frzS, frz1, wipeS, List.modify_zero_cons, List.modify_succ_cons, Bool.true_eq_false, Bool.false_eq_true, if_true, if_false, ite_true, ite_false, reduceIte, List.replicate, Nat.add_zero, Nat.zero_add, if_pos, Nat.one_ne_zero, Nat.reduceEqDiff, reduceCtorEq, decide_eq_true_eq, eqD, eqDs, ty_beq, decide_true, decide_false, Bool.not_true, Bool.not_false, wps_cons, wps_nil, List.map_cons, List.map_nil, List.cons_append, List.nil_append, Bool.and_true, Bool.true_and, Bool.and_false, Bool.false_and, not_true_eq_false, not_false_eq_true, List.length_cons, List.length_nil, at_0, at_1, at_2, at_3]
    rw [rngD_len]
    exact q
theorem wp_doubling_costs (ds : List D) (B : Bag) (Q : D → Bag → Prop) (h : Γ 6 ds B Q) : wpFn (cut 6 Γ) sgdoubling_costs.N.length irdoubling_costs ds B Q := by
  obtain ⟨g, n, rfl, h1, h2, q⟩ := h
  have h5 : cut 6 Γ 5 = S5 := rfl
  unfold wpFn irdoubling_costs
  simp only [s_asg, s_asgO, s_unp, s_par, s_app, s_ext, s_seti, s_ex, s_ite, s_ret, s_retN, s_brk, s_cnt, s_pas, s_nvr, s_frz, s_mov, s_bpop, s_bset, wpE, wpEs, getV, getB, getO, bnd_some, tst_bl, binD, addD, subD, mulD, int2, cmpD, ordD, biD, one, extD, atD, bindT, bindTs, parT, ownS, iterD, itemsOf, partD, absE, sliD, revD, isTy, isNon, permD, List.set_cons_zero, List.set_cons_succ, List.getD_cons_zero, List.getD_cons_succ, frzS, frz1, wipeS, List.modify_zero_cons, List.modify_succ_cons, Bool.true_eq_false, Bool.false_eq_true, if_true, if_false, ite_true, ite_false, reduceIte, List.replicate, Nat.add_zero, Nat.zero_add, if_pos, Nat.one_ne_zero, Nat.reduceEqDiff, reduceCtorEq, decide_eq_true_eq, eqD, eqDs, ty_beq, decide_true, decide_false, Bool.not_true, Bool.not_false, wps_cons, wps_nil, List.map_cons, List.map_nil, List.cons_append, List.nil_append, Bool.and_true, Bool.true_and, Bool.and_false, Bool.false_and, not_true_eq_false, not_false_eq_true, List.length_cons, List.length_nil, at_0, at_1, at_2, at_3, h5]
  unfold dcost at q
  refine ⟨⟨rfl, rfl⟩, ?_⟩
  split
  · rename_i e; rw [if_pos e] at q; exact q
  · rename_i e; rw [if_neg e] at q
    exact ⟨g, n, rfl, h1, h2, divOk_of (by omega) (by omega), q⟩
theorem wp_doubling_price (ds : List D) (B : Bag) (Q : D → Bag → Prop) (h : Γ 7 ds B Q) : wpFn (cut 7 Γ) sgdoubling_price.N.length irdoubling_price ds B Q := by
  obtain ⟨g, rfl, h1, h2, q⟩ := h
  have h5 : cut 7 Γ 4 = S4 := rfl
  unfold wpFn irdoubling_price
  simp only [s_asg, s_asgO, s_unp, s_par, s_app, s_ext, s_seti, s_ex, s_ite, s_ret, s_retN, s_brk, s_cnt, s_pas, s_nvr, s_frz, s_mov, s_bpop, s_bset, wpE, wpEs, getV, getB, getO, bnd_some, tst_bl, binD, addD, subD, mulD, int2, cmpD, ordD, biD, one, extD, atD, bindT, bindTs, parT, ownS, iterD, itemsOf, partD, absE, sliD, revD, isTy, isNon, permD, List.set_cons_zero, List.set_cons_succ, List.getD_cons_zero, List.getD_cons_succ, frzS, frz1, wipeS, List.modify_zero_cons, List.modify_succ_cons, Bool.true_eq_false, Bool.false_eq_true, if_true, if_false, ite_true, ite_false, reduceIte, List.replicate, Nat.add_zero, Nat.zero_add, if_pos, Nat.one_ne_zero, Nat.reduceEqDiff, reduceCtorEq, decide_eq_true_eq, eqD, eqDs, ty_beq, decide_true, decide_false, Bool.not_true, Bool.not_false, wps_cons, wps_nil, List.map_cons, List.map_nil, List.cons_append, List.nil_append, Bool.and_true, Bool.true_and, Bool.and_false, Bool.false_and, not_true_eq_false, not_false_eq_true, List.length_cons, List.length_nil, at_0, at_1, at_2, at_3, h5]
  exact ⟨mulOk_l (by decide), _, _, rfl, by omega, by omega, q⟩
theorem wp_doubling_quotient (ds : List D) (B : Bag) (Q : D → Bag → Prop) (h : Γ 8 ds B Q) : wpFn (cut 8 Γ) sgdoubling_quotient.N.length irdoubling_quotient ds B Q := by
  obtain ⟨g, n, rfl, h1, h2, h3, h4, q⟩ := h
  have h5 : cut 8 Γ 4 = S4 := rfl
  have h6 : cut 8 Γ 6 = S6 := rfl
  unfold wpFn irdoubling_quotient
  simp only [s_asg, s_asgO, s_unp, s_par, s_app, s_ext, s_seti, s_ex, s_ite, s_ret, s_retN, s_brk, s_cnt, s_pas, s_nvr, s_frz, s_mov, s_bpop, s_bset, wpE, wpEs, getV, getB, getO, bnd_some, tst_bl, binD, addD, subD, mulD, int2, cmpD, ordD, biD, one, extD, atD, bindT, bindTs, parT, ownS, iterD, itemsOf, partD, absE, sliD, revD, isTy, isNon, permD, List.set_cons_zero, List.set_cons_succ, List.getD_cons_zero, List.getD_cons_succ, frzS, frz1, wipeS, List.modify_zero_cons, List.modify_succ_cons, Bool.true_eq_false, Bool.false_eq_true, if_true, if_false, ite_true, ite_false, reduceIte, List.replicate, Nat.add_zero, Nat.zero_add, if_pos, Nat.one_ne_zero, Nat.reduceEqDiff, reduceCtorEq, decide_eq_true_eq, eqD, eqDs, ty_beq, decide_true, decide_false, Bool.not_true, Bool.not_false, wps_cons, wps_nil, List.map_cons, List.map_nil, List.cons_append, List.nil_append, Bool.and_true, Bool.true_and, Bool.and_false, Bool.false_and, not_true_eq_false, not_false_eq_true, List.length_cons, List.length_nil, at_0, at_1, at_2, at_3, h5, h6]
  exact ⟨g, n, rfl, h1, h2, _, _, rfl, h3, h4, q⟩
theorem wp_adding_costs (ds : List D) (B : Bag) (Q : D → Bag → Prop) (h : Γ 9 ds B Q) : wpFn (cut 9 Γ) sgadding_costs.N.length iradding_costs ds B Q := by
  obtain ⟨k, n, rfl, h1, h2, h3, h4, q⟩ := h
  unfold wpFn iradding_costs
  unfold addc at q
  rw [show sgadding_costs.N.length = 3 from rfl]
  simp only [s_asg, s_asgO, s_unp, s_par, s_app, s_ext, s_seti, s_ex, s_ite, s_ret, s_retN, s_brk, s_cnt, s_pas, s_nvr, s_frz, s_mov, s_bpop, s_bset, wpE, wpEs, getV, getB, getO, bnd_some, tst_bl, binD, addD, subD, mulD, int2, cmpD, ordD, biD, one, extD, atD, bindT, bindTs, parT, ownS, iterD, itemsOf, partD, absE, sliD, revD, isTy, isNon, permD, List.set_cons_zero, List.set_cons_succ, List.getD_cons_zero, List.getD_cons_succ, frzS, frz1, wipeS, List.modify_zero_cons, List.modify_succ_cons, Bool.true_eq_false, Bool.false_eq_true, if_true, if_false, ite_true, ite_false, reduceIte, List.replicate, Nat.add_zero, Nat.zero_add, if_pos, Nat.one_ne_zero, Nat.reduceEqDiff, reduceCtorEq, decide_eq_true_eq, eqD, eqDs, ty_beq, decide_true, decide_false, Bool.not_true, Bool.not_false, wps_cons, wps_nil, List.map_cons, List.map_nil, List.cons_append, List.nil_append, Bool.and_true, Bool.true_and, Bool.and_false, Bool.false_and, not_true_eq_false, not_false_eq_true, List.length_cons, List.length_nil, at_0, at_1, at_2, at_3]
  refine ⟨⟨rfl, rfl⟩, ?_⟩
  split
  · rename_i e; rw [if_pos e] at q; exact q
  · rename_i e; rw [if_neg e] at q
    refine ⟨divOk_of (by omega) (by omega), ?_, divOk_of (by decide) (by decide), mulOk_l (by omega), q⟩
    refine mulOk_l ⟨?_, ?_⟩
    · have : 0 ≤ (n - 1 + k - 1) / k := Int.ediv_nonneg (by omega) (by omega)
      omega
    · have : (n - 1 + k - 1) / k ≤ n - 1 + k - 1 := Int.ediv_le_self _ (by omega)
      omega
theorem over_len (g n : Int) : ∀ i, (over g n i).length ≤ i
  | 0 => Nat.le_refl _
  | i + 1 => by
    have := over_len g n i
    rw [over]
    split
    · rw [List.length_append, List.length_singleton]; omega
    · omega
theorem wp_law_draw (ds : List D) (B : Bag) (Q : D → Bag → Prop) (h : Γ 10 ds B Q) : wpFn (cut 10 Γ) sglaw_draw.N.length irlaw_draw ds B Q := draw_wp (cut_mono Γ_mono) h
theorem wp_law_pick (ds : List D) (B : Bag) (Q : D → Bag → Prop) (h : Γ 11 ds B Q) : wpFn (cut 11 Γ) sglaw_pick.N.length irlaw_pick ds B Q := pick_wp (i := 10) (cut_mono Γ_mono) rfl h
theorem wp_law_moved (ds : List D) (B : Bag) (Q : D → Bag → Prop) (h : Γ 13 ds B Q) : wpFn (cut 13 Γ) sglaw_moved.N.length irlaw_moved ds B Q := by
  obtain ⟨g, n, rfl, h1, h2, q⟩ := h
  have G := cut_mono (m := 13) Γ_mono
  unfold wpFn irlaw_moved
  rw [show sglaw_moved.N.length = 5 from rfl]
  simp only [s_asg, s_asgO, s_unp, s_par, s_app, s_ext, s_seti, s_ex, s_ite, s_ret, s_retN, s_brk, s_cnt, s_pas, s_nvr, s_frz, s_mov, s_bpop, s_bset, wpE, wpEs, getV, getB, getO, bnd_some, tst_bl, binD, addD, subD, mulD, int2, cmpD, ordD, biD, one, extD, atD, bindT, bindTs, parT, ownS, iterD, itemsOf, partD, absE, sliD, revD, isTy, isNon, permD, List.set_cons_zero, List.set_cons_succ, List.getD_cons_zero, List.getD_cons_succ, frzS, frz1, wipeS, List.modify_zero_cons, List.modify_succ_cons, Bool.true_eq_false, Bool.false_eq_true, if_true, if_false, ite_true, ite_false, reduceIte, List.replicate, Nat.add_zero, Nat.zero_add, if_pos, Nat.one_ne_zero, Nat.reduceEqDiff, reduceCtorEq, decide_eq_true_eq, eqD, eqDs, ty_beq, decide_true, decide_false, Bool.not_true, Bool.not_false, wps_cons, wps_nil, List.map_cons, List.map_nil, List.cons_append, List.nil_append, Bool.and_true, Bool.true_and, Bool.and_false, Bool.false_and, not_true_eq_false, not_false_eq_true, List.length_cons, List.length_nil, at_0, at_1, at_2, at_3]
  refine wp_for G ?_
  simp only [s_asg, s_asgO, s_unp, s_par, s_app, s_ext, s_seti, s_ex, s_ite, s_ret, s_retN, s_brk, s_cnt, s_pas, s_nvr, s_frz, s_mov, s_bpop, s_bset, wpE, wpEs, getV, getB, getO, bnd_some, tst_bl, binD, addD, subD, mulD, int2, cmpD, ordD, biD, one, extD, atD, bindT, bindTs, parT, ownS, iterD, itemsOf, partD, absE, sliD, revD, isTy, isNon, permD, List.set_cons_zero, List.set_cons_succ, List.getD_cons_zero, List.getD_cons_succ, frzS, frz1, wipeS, List.modify_zero_cons, List.modify_succ_cons, Bool.true_eq_false, Bool.false_eq_true, if_true, if_false, ite_true, ite_false, reduceIte, List.replicate, Nat.add_zero, Nat.zero_add, if_pos, Nat.one_ne_zero, Nat.reduceEqDiff, reduceCtorEq, decide_eq_true_eq, eqD, eqDs, ty_beq, decide_true, decide_false, Bool.not_true, Bool.not_false, wps_cons, wps_nil, List.map_cons, List.map_nil, List.cons_append, List.nil_append, Bool.and_true, Bool.true_and, Bool.and_false, Bool.false_and, not_true_eq_false, not_false_eq_true, List.length_cons, List.length_nil, at_0, at_1, at_2, at_3]
  refine ⟨⟨by decide, by decide⟩, fun i σ B' => B' = B ∧ ∃ s4, i ≤ 25 ∧ σ = [.va (.int g), .va (.int n), .ow ((over g n i).map D.int), .va (.int (room g n i)), s4], ⟨rfl, .no, by decide, rfl⟩, ?_, ?_⟩
  · rintro i x σ B' hx ⟨rfl, s4, hi, rfl⟩
    have hi2 : i < 25 := by
      have := (List.getElem?_eq_some_iff.mp hx).1
      rw [rngD_len] at this
      exact this
    have hl := over_len g n i
    simp only [s_asg, s_asgO, s_unp, s_par, s_app, s_ext, s_seti, s_ex, s_ite, s_ret, s_retN, s_brk, s_cnt, s_pas, s_nvr, s_frz, s_mov, s_bpop, s_bset, wpE, wpEs, getV, getB, getO, bnd_some, tst_bl, binD, addD, subD, mulD, int2, cmpD, ordD, biD, one, extD, atD, bindT, bindTs, parT, ownS, iterD, itemsOf, partD, absE, sliD, revD, isTy, isNon, permD, List.set_cons_zero, List.set_cons_succ, List.getD_cons_zero, List.getD_cons_succ, frzS, frz1, wipeS, List.modify_zero_cons, List.modify_succ_cons, Bool.true_eq_false, Bool.false_eq_true, if_true, if_false, ite_true, ite_false, reduceIte, List.replicate, Nat.add_zero, Nat.zero_add, if_pos, Nat.one_ne_zero, Nat.reduceEqDiff, reduceCtorEq, decide_eq_true_eq, eqD, eqDs, ty_beq, decide_true, decide_false, Bool.not_true, Bool.not_false, wps_cons, wps_nil, List.map_cons, List.map_nil, List.cons_append, List.nil_append, Bool.and_true, Bool.true_and, Bool.and_false, Bool.false_and, not_true_eq_false, not_false_eq_true, List.length_cons, List.length_nil, at_0, at_1, at_2, at_3]
    refine iteI (fun e => ?_) (fun e => ?_)
    · exact ⟨by rw [List.length_map]; unfold LIM; omega, mulOk_r (by omega), trivial, .va x, hi2, by
        rw [over, room, if_pos e, if_pos e, List.map_append, Int.mul_comm]
        rfl⟩
    · exact ⟨trivial, .va x, hi2, by rw [over, room, if_neg e, if_neg e]⟩
  · rintro σ B' ⟨rfl, s4, hi, rfl⟩
    simp only [s_asg, s_asgO, s_unp, s_par, s_app, s_ext, s_seti, s_ex, s_ite, s_ret, s_retN, s_brk, s_cnt, s_pas, s_nvr, s_frz, s_mov, s_bpop, s_bset, wpE, wpEs, getV, getB, getO, bnd_some, tst_bl, binD, addD, subD, mulD, int2, cmpD, ordD, biD, one, extD, atD, bindT, bindTs, parT, ownS, iterD, itemsOf, partD, absE, sliD, revD, isTy, isNon, permD, List.set_cons_zero, List.set_cons_succ, List.getD_cons_zero, List.getD_cons_succ, frzS, frz1, wipeS, List.modify_zero_cons, List.modify_succ_cons, Bool.true_eq_false, Bool.false_eq_true, if_true, if_false, ite_true, ite_false, reduceIte, List.replicate, Nat.add_zero, Nat.zero_add, if_pos, Nat.one_ne_zero, Nat.reduceEqDiff, reduceCtorEq, decide_eq_true_eq, eqD, eqDs, ty_beq, decide_true, decide_false, Bool.not_true, Bool.not_false, wps_cons, wps_nil, List.map_cons, List.map_nil, List.cons_append, List.nil_append, Bool.and_true, Bool.true_and, Bool.and_false, Bool.false_and, not_true_eq_false, not_false_eq_true, List.length_cons, List.length_nil, at_0, at_1, at_2, at_3]
    rw [rngD_len]
    exact q
theorem wp_law_walk (ds : List D) (B : Bag) (Q : D → Bag → Prop) (h : Γ 15 ds B Q) : wpFn (cut 15 Γ) sglaw_walk.N.length irlaw_walk ds B Q := by
  obtain ⟨s, l, rfl, hl, q⟩ := h
  have G := cut_mono (m := 15) Γ_mono
  unfold wpFn irlaw_walk
  rw [show sglaw_walk.N.length = 5 from rfl]
  simp only [s_asg, s_asgO, s_unp, s_par, s_app, s_ext, s_seti, s_ex, s_ite, s_ret, s_retN, s_brk, s_cnt, s_pas, s_nvr, s_frz, s_mov, s_bpop, s_bset, wpE, wpEs, getV, getB, getO, bnd_some, tst_bl, binD, addD, subD, mulD, int2, cmpD, ordD, biD, one, extD, atD, bindT, bindTs, parT, ownS, iterD, itemsOf, partD, absE, sliD, revD, isTy, isNon, permD, List.set_cons_zero, List.set_cons_succ, List.getD_cons_zero, List.getD_cons_succ, frzS, frz1, wipeS, List.modify_zero_cons, List.modify_succ_cons, Bool.true_eq_false, Bool.false_eq_true, if_true, if_false, ite_true, ite_false, reduceIte, List.replicate, Nat.add_zero, Nat.zero_add, if_pos, Nat.one_ne_zero, Nat.reduceEqDiff, reduceCtorEq, decide_eq_true_eq, eqD, eqDs, ty_beq, decide_true, decide_false, Bool.not_true, Bool.not_false, wps_cons, wps_nil, List.map_cons, List.map_nil, List.cons_append, List.nil_append, Bool.and_true, Bool.true_and, Bool.and_false, Bool.false_and, not_true_eq_false, not_false_eq_true, List.length_cons, List.length_nil, at_0, at_1, at_2, at_3]
  refine wp_for G ?_
  simp only [s_asg, s_asgO, s_unp, s_par, s_app, s_ext, s_seti, s_ex, s_ite, s_ret, s_retN, s_brk, s_cnt, s_pas, s_nvr, s_frz, s_mov, s_bpop, s_bset, wpE, wpEs, getV, getB, getO, bnd_some, tst_bl, binD, addD, subD, mulD, int2, cmpD, ordD, biD, one, extD, atD, bindT, bindTs, parT, ownS, iterD, itemsOf, partD, absE, sliD, revD, isTy, isNon, permD, List.set_cons_zero, List.set_cons_succ, List.getD_cons_zero, List.getD_cons_succ, frzS, frz1, wipeS, List.modify_zero_cons, List.modify_succ_cons, Bool.true_eq_false, Bool.false_eq_true, if_true, if_false, ite_true, ite_false, reduceIte, List.replicate, Nat.add_zero, Nat.zero_add, if_pos, Nat.one_ne_zero, Nat.reduceEqDiff, reduceCtorEq, decide_eq_true_eq, eqD, eqDs, ty_beq, decide_true, decide_false, Bool.not_true, Bool.not_false, wps_cons, wps_nil, List.map_cons, List.map_nil, List.cons_append, List.nil_append, Bool.and_true, Bool.true_and, Bool.and_false, Bool.false_and, not_true_eq_false, not_false_eq_true, List.length_cons, List.length_nil, at_0, at_1, at_2, at_3]
  refine ⟨fun i σ B' => B' = B ∧ ∃ s3 s4, σ = [.va (.int (runS s (l.take i))), .va (.tup (l.map dd)), .ow ((runC s (l.take i)).map D.int), s3, s4], ⟨rfl, .no, .no, rfl⟩, ?_, ?_⟩
  · rintro i x σ B' hx ⟨rfl, s3, s4, rfl⟩
    obtain ⟨d, hd, rfl⟩ := get_map hx
    have ht := take_one hd
    have hn : ((runC s (l.take i)).map D.int).length < LIM := by
      rw [List.length_map, runC_len, List.length_take]
      unfold LIM; omega
    cases d with
    | none =>
      simp only [s_asg, s_asgO, s_unp, s_par, s_app, s_ext, s_seti, s_ex, s_ite, s_ret, s_retN, s_brk, s_cnt, s_pas, s_nvr, s_frz, s_mov, s_bpop, s_bset, wpE, wpEs, getV, getB, getO, bnd_some, tst_bl, binD, addD, subD, mulD, int2, cmpD, ordD, biD, one, extD, atD, bindT, bindTs, parT, ownS, iterD, itemsOf, partD, absE, sliD, revD, isTy, isNon, permD, List.set_cons_zero, List.set_cons_succ, List.getD_cons_zero, List.getD_cons_succ, frzS, frz1, wipeS, List.modify_zero_cons, List.modify_succ_cons, Bool.true_eq_false, Bool.false_eq_true, if_true, if_false, ite_true, ite_false, reduceIte, List.replicate, Nat.add_zero, Nat.zero_add, if_pos, Nat.one_ne_zero, Nat.reduceEqDiff, reduceCtorEq, decide_eq_true_eq, eqD, eqDs, ty_beq, decide_true, decide_false, Bool.not_true, Bool.not_false, wps_cons, wps_nil, List.map_cons, List.map_nil, List.cons_append, List.nil_append, Bool.and_true, Bool.true_and, Bool.and_false, Bool.false_and, not_true_eq_false, not_false_eq_true, List.length_cons, List.length_nil, at_0, at_1, at_2, at_3, dd]
      exact ⟨hn, trivial, _, _, by
        rw [ht, runC_append, runS_append, List.map_append]
        rfl⟩
    | some d =>
      simp only [s_asg, s_asgO, s_unp, s_par, s_app, s_ext, s_seti, s_ex, s_ite, s_ret, s_retN, s_brk, s_cnt, s_pas, s_nvr, s_frz, s_mov, s_bpop, s_bset, wpE, wpEs, getV, getB, getO, bnd_some, tst_bl, binD, addD, subD, mulD, int2, cmpD, ordD, biD, one, extD, atD, bindT, bindTs, parT, ownS, iterD, itemsOf, partD, absE, sliD, revD, isTy, isNon, permD, List.set_cons_zero, List.set_cons_succ, List.getD_cons_zero, List.getD_cons_succ, frzS, frz1, wipeS, List.modify_zero_cons, List.modify_succ_cons, Bool.true_eq_false, Bool.false_eq_true, if_true, if_false, ite_true, ite_false, reduceIte, List.replicate, Nat.add_zero, Nat.zero_add, if_pos, Nat.one_ne_zero, Nat.reduceEqDiff, reduceCtorEq, decide_eq_true_eq, eqD, eqDs, ty_beq, decide_true, decide_false, Bool.not_true, Bool.not_false, wps_cons, wps_nil, List.map_cons, List.map_nil, List.cons_append, List.nil_append, Bool.and_true, Bool.true_and, Bool.and_false, Bool.false_and, not_true_eq_false, not_false_eq_true, List.length_cons, List.length_nil, at_0, at_1, at_2, at_3, dd]
      exact ⟨hn, trivial, _, _, by
        rw [ht, runC_append, runS_append, List.map_append]
        rfl⟩
  · rintro σ B' ⟨rfl, s3, s4, rfl⟩
    simp only [s_asg, s_asgO, s_unp, s_par, s_app, s_ext, s_seti, s_ex, s_ite, s_ret, s_retN, s_brk, s_cnt, s_pas, s_nvr, s_frz, s_mov, s_bpop, s_bset, wpE, wpEs, getV, getB, getO, bnd_some, tst_bl, binD, addD, subD, mulD, int2, cmpD, ordD, biD, one, extD, atD, bindT, bindTs, parT, ownS, iterD, itemsOf, partD, absE, sliD, revD, isTy, isNon, permD, List.set_cons_zero, List.set_cons_succ, List.getD_cons_zero, List.getD_cons_succ, frzS, frz1, wipeS, List.modify_zero_cons, List.modify_succ_cons, Bool.true_eq_false, Bool.false_eq_true, if_true, if_false, ite_true, ite_false, reduceIte, List.replicate, Nat.add_zero, Nat.zero_add, if_pos, Nat.one_ne_zero, Nat.reduceEqDiff, reduceCtorEq, decide_eq_true_eq, eqD, eqDs, ty_beq, decide_true, decide_false, Bool.not_true, Bool.not_false, wps_cons, wps_nil, List.map_cons, List.map_nil, List.cons_append, List.nil_append, Bool.and_true, Bool.true_and, Bool.and_false, Bool.false_and, not_true_eq_false, not_false_eq_true, List.length_cons, List.length_nil, at_0, at_1, at_2, at_3]
    rw [List.length_map, List.take_length]
    exact q
def dI (s way : Int) (i : Nat) (σ : List Sl) : Prop := ∃ (l : List (Option Int)) (here : Int) (s5 s6 s7 : Sl), l.length = i ∧ (∀ d : Int, some d ∈ l → 0 ≤ d) ∧ 0 ≤ here ∧ σ = [.va .bag, .va (.int s), .ow (l.map dd), .va (.int here), .va (.int way), s5, s6, s7]
theorem dI_put {s way here : Int} {l : List (Option Int)} {s5 s6 s7 : Sl} (hl : ∀ d : Int, some d ∈ l → 0 ≤ d) (hh : 0 ≤ here) : dI s way (l.length + 1) [.va .bag, .va (.int s), .ow (l.map dd ++ [.non]), .va (.int (here + 1)), .va (.int way), s5, s6, s7] :=
  ⟨l ++ [none], here + 1, s5, s6, s7, by rw [List.length_append]; rfl, fun d hd => by
    rcases List.mem_append.mp hd with h | h
    · exact hl d h
    · simp at h, by omega, by rw [List.map_append]; rfl⟩
theorem dI_take {s way here j : Int} {l : List (Option Int)} {s5 s6 s7 : Sl} (hl : ∀ d : Int, some d ∈ l → 0 ≤ d) (hj : 0 ≤ j) : dI s way (l.length + 1) [.va .bag, .va (.int s), .ow (l.map dd ++ [.int j]), .va (.int (if here - j > 0 then here - j else 0)), .va (.int way), s5, s6, s7] :=
  ⟨l ++ [some j], if here - j > 0 then here - j else 0, s5, s6, s7, by rw [List.length_append]; rfl, fun d hd => by
    rcases List.mem_append.mp hd with h | h
    · exact hl d h
    · simp at h; omega, by split <;> omega, by rw [List.map_append]; rfl⟩
theorem wp_law_deeds (ds : List D) (B : Bag) (Q : D → Bag → Prop) (h : Γ 16 ds B Q) : wpFn (cut 16 Γ) sglaw_deeds.N.length irlaw_deeds ds B Q := by
  obtain ⟨s, rfl, h1, h2, q⟩ := h
  have G := cut_mono (m := 16) Γ_mono
  have hD : cut 16 Γ 10 = semDraw := rfl
  have hP : cut 16 Γ 11 = semPick := rfl
  unfold wpFn irlaw_deeds
  rw [show sglaw_deeds.N.length = 8 from rfl]
  simp only [s_asg, s_asgO, s_unp, s_par, s_app, s_ext, s_seti, s_ex, s_ite, s_ret, s_retN, s_brk, s_cnt, s_pas, s_nvr, s_frz, s_mov, s_bpop, s_bset, wpE, wpEs, getV, getB, getO, bnd_some, tst_bl, binD, addD, subD, mulD, int2, cmpD, ordD, biD, one, extD, atD, bindT, bindTs, parT, ownS, iterD, itemsOf, partD, absE, sliD, revD, isTy, isNon, permD, List.set_cons_zero, List.set_cons_succ, List.getD_cons_zero, List.getD_cons_succ, frzS, frz1, wipeS, List.modify_zero_cons, List.modify_succ_cons, Bool.true_eq_false, Bool.false_eq_true, if_true, if_false, ite_true, ite_false, reduceIte, List.replicate, Nat.add_zero, Nat.zero_add, if_pos, Nat.one_ne_zero, Nat.reduceEqDiff, reduceCtorEq, decide_eq_true_eq, eqD, eqDs, ty_beq, decide_true, decide_false, Bool.not_true, Bool.not_false, wps_cons, wps_nil, List.map_cons, List.map_nil, List.cons_append, List.nil_append, Bool.and_true, Bool.true_and, Bool.and_false, Bool.false_and, not_true_eq_false, not_false_eq_true, List.length_cons, List.length_nil, at_0, at_1, at_2, at_3, hD, hP]
  refine draw_at (by decide) (by decide) fun way B1 _ _ => ?_
  refine wp_for G ?_
  simp only [s_asg, s_asgO, s_unp, s_par, s_app, s_ext, s_seti, s_ex, s_ite, s_ret, s_retN, s_brk, s_cnt, s_pas, s_nvr, s_frz, s_mov, s_bpop, s_bset, wpE, wpEs, getV, getB, getO, bnd_some, tst_bl, binD, addD, subD, mulD, int2, cmpD, ordD, biD, one, extD, atD, bindT, bindTs, parT, ownS, iterD, itemsOf, partD, absE, sliD, revD, isTy, isNon, permD, List.set_cons_zero, List.set_cons_succ, List.getD_cons_zero, List.getD_cons_succ, frzS, frz1, wipeS, List.modify_zero_cons, List.modify_succ_cons, Bool.true_eq_false, Bool.false_eq_true, if_true, if_false, ite_true, ite_false, reduceIte, List.replicate, Nat.add_zero, Nat.zero_add, if_pos, Nat.one_ne_zero, Nat.reduceEqDiff, reduceCtorEq, decide_eq_true_eq, eqD, eqDs, ty_beq, decide_true, decide_false, Bool.not_true, Bool.not_false, wps_cons, wps_nil, List.map_cons, List.map_nil, List.cons_append, List.nil_append, Bool.and_true, Bool.true_and, Bool.and_false, Bool.false_and, not_true_eq_false, not_false_eq_true, List.length_cons, List.length_nil, at_0, at_1, at_2, at_3, hD, hP]
  refine pickL_at (by simp) (by decide) fun t ht B2 => ?_
  have ht2 : ∃ N : Int, t = .int N ∧ 0 ≤ N ∧ N ≤ 200 := by
    simp only [List.mem_cons, List.not_mem_nil, or_false] at ht
    rcases ht with rfl | rfl | rfl | rfl <;> exact ⟨_, rfl, by decide, by decide⟩
  obtain ⟨N, rfl, hN0, hN1⟩ := ht2
  simp only [s_asg, s_asgO, s_unp, s_par, s_app, s_ext, s_seti, s_ex, s_ite, s_ret, s_retN, s_brk, s_cnt, s_pas, s_nvr, s_frz, s_mov, s_bpop, s_bset, wpE, wpEs, getV, getB, getO, bnd_some, tst_bl, binD, addD, subD, mulD, int2, cmpD, ordD, biD, one, extD, atD, bindT, bindTs, parT, ownS, iterD, itemsOf, partD, absE, sliD, revD, isTy, isNon, permD, List.set_cons_zero, List.set_cons_succ, List.getD_cons_zero, List.getD_cons_succ, frzS, frz1, wipeS, List.modify_zero_cons, List.modify_succ_cons, Bool.true_eq_false, Bool.false_eq_true, if_true, if_false, ite_true, ite_false, reduceIte, List.replicate, Nat.add_zero, Nat.zero_add, if_pos, Nat.one_ne_zero, Nat.reduceEqDiff, reduceCtorEq, decide_eq_true_eq, eqD, eqDs, ty_beq, decide_true, decide_false, Bool.not_true, Bool.not_false, wps_cons, wps_nil, List.map_cons, List.map_nil, List.cons_append, List.nil_append, Bool.and_true, Bool.true_and, Bool.and_false, Bool.false_and, not_true_eq_false, not_false_eq_true, List.length_cons, List.length_nil, at_0, at_1, at_2, at_3]
  refine ⟨⟨by omega, by omega⟩, fun i σ _ => dI s way i σ, ⟨[], s, .no, .no, .no, rfl, (fun _ h => nomatch h), h1, rfl⟩, ?_, ?_⟩
  · rintro i x σ B' hx ⟨l, here, s5, s6, s7, rfl, hl, hh, rfl⟩
    have hi2 : l.length < 201 := by
      have := (List.getElem?_eq_some_iff.mp hx).1
      rw [rngD_len] at this
      omega
    obtain ⟨tv, rfl⟩ : ∃ tv : Int, x = .int tv := by
      rw [rngD_get] at hx
      split at hx
      · exact ⟨_, (Option.some.inj hx).symm⟩
      · cases hx
    have lim : (l.map dd).length < LIM := by rw [List.length_map]; unfold LIM; omega
    have take : ∀ (sb : Sl) (B1 : Bag), semDraw [.bag, .int 61] B1 fun d B1 => semPick [.bag, .lst [.int 0, .int 1, .int 60, .int here, d]] B1 fun d B1 => (l.map dd).length < LIM ∧ (match d with
        | .int j => dI s way (l.length + 1) [.va .bag, .va (.int s), .ow (l.map dd ++ [d]), .va (.int (if here - j > 0 then here - j else 0)), .va (.int way), .va (.int tv), sb, .va d]
        | _ => False) := fun sb B1 => draw_at (by decide) (by decide) fun d B2 h0 _ => pickL_at (by simp) (by simp) fun e he B3 => ⟨lim, by
      have : ∃ j : Int, e = .int j ∧ 0 ≤ j := by
        simp only [List.mem_cons, List.not_mem_nil, or_false] at he
        rcases he with rfl | rfl | rfl | rfl | rfl
        · exact ⟨_, rfl, by decide⟩
        · exact ⟨_, rfl, by decide⟩
        · exact ⟨_, rfl, by decide⟩
        · exact ⟨_, rfl, hh⟩
        · exact ⟨_, rfl, h0⟩
      obtain ⟨j, rfl, hj⟩ := this
      exact dI_take hl hj⟩
    simp only [s_asg, s_asgO, s_unp, s_par, s_app, s_ext, s_seti, s_ex, s_ite, s_ret, s_retN, s_brk, s_cnt, s_pas, s_nvr, s_frz, s_mov, s_bpop, s_bset, wpE, wpEs, getV, getB, getO, bnd_some, tst_bl, binD, addD, subD, mulD, int2, cmpD, ordD, biD, one, extD, atD, bindT, bindTs, parT, ownS, iterD, itemsOf, partD, absE, sliD, revD, isTy, isNon, permD, List.set_cons_zero, List.set_cons_succ, List.getD_cons_zero, List.getD_cons_succ, frzS, frz1, wipeS, List.modify_zero_cons, List.modify_succ_cons, Bool.true_eq_false, Bool.false_eq_true, if_true, if_false, ite_true, ite_false, reduceIte, List.replicate, Nat.add_zero, Nat.zero_add, if_pos, Nat.one_ne_zero, Nat.reduceEqDiff, reduceCtorEq, decide_eq_true_eq, eqD, eqDs, ty_beq, decide_true, decide_false, Bool.not_true, Bool.not_false, wps_cons, wps_nil, List.map_cons, List.map_nil, List.cons_append, List.nil_append, Bool.and_true, Bool.true_and, Bool.and_false, Bool.false_and, not_true_eq_false, not_false_eq_true, List.length_cons, List.length_nil, at_0, at_1, at_2, at_3, hD, hP]
    refine iteI (fun _ => draw_at (by decide) (by decide) fun i B2 _ _ => ?_) (fun _ => ⟨⟨rfl, rfl⟩, iteI (fun _ => ⟨by decide, ?_⟩) fun _ => ?_⟩)
    · exact iteI (fun _ => iteI (fun _ => ⟨lim, dI_put hl hh⟩) fun _ => take _ _) fun _ => take _ _
    · exact iteI (fun _ => iteI (fun _ => ⟨lim, dI_put hl hh⟩) fun _ => take _ _) fun _ => take _ _
    · exact ⟨⟨rfl, rfl⟩, iteI (fun _ => iteI (fun _ => ⟨lim, dI_put hl hh⟩) fun _ => take _ _) fun _ => take _ _⟩
  · rintro σ B' ⟨l, here, s5, s6, s7, hl, hl2, hh, rfl⟩
    simp only [s_asg, s_asgO, s_unp, s_par, s_app, s_ext, s_seti, s_ex, s_ite, s_ret, s_retN, s_brk, s_cnt, s_pas, s_nvr, s_frz, s_mov, s_bpop, s_bset, wpE, wpEs, getV, getB, getO, bnd_some, tst_bl, binD, addD, subD, mulD, int2, cmpD, ordD, biD, one, extD, atD, bindT, bindTs, parT, ownS, iterD, itemsOf, partD, absE, sliD, revD, isTy, isNon, permD, List.set_cons_zero, List.set_cons_succ, List.getD_cons_zero, List.getD_cons_succ, frzS, frz1, wipeS, List.modify_zero_cons, List.modify_succ_cons, Bool.true_eq_false, Bool.false_eq_true, if_true, if_false, ite_true, ite_false, reduceIte, List.replicate, Nat.add_zero, Nat.zero_add, if_pos, Nat.one_ne_zero, Nat.reduceEqDiff, reduceCtorEq, decide_eq_true_eq, eqD, eqDs, ty_beq, decide_true, decide_false, Bool.not_true, Bool.not_false, wps_cons, wps_nil, List.map_cons, List.map_nil, List.cons_append, List.nil_append, Bool.and_true, Bool.true_and, Bool.and_false, Bool.false_and, not_true_eq_false, not_false_eq_true, List.length_cons, List.length_nil, at_0, at_1, at_2, at_3]
    refine q l B' ?_ hl2
    rw [hl, rngD_len]
    omega
theorem room_pos {g n : Int} (h : 2 ≤ g) : ∀ t, 1 ≤ room g n t
  | 0 => by show (1 : Int) ≤ 1; omega
  | t + 1 => by
    have := room_pos (n := n) h t
    rw [room]
    split
    · have := Int.mul_le_mul (show (1 : Int) ≤ g by omega) this (by decide) (by omega)
      omega
    · exact this
theorem over_sum {g n : Int} : ∀ t, (over g n t).sum * (g - 1) = room g n t - 1
  | 0 => by show (0 : Int) * (g - 1) = 1 - 1; omega
  | t + 1 => by
    have ih := over_sum (g := g) (n := n) t
    rw [over, room]
    split
    · rw [List.sum_append, List.sum_singleton, Int.add_mul, ih, Int.mul_sub, Int.mul_comm g]
      omega
    · exact ih
theorem over_pos {g n : Int} (h : 2 ≤ g) : ∀ t, ∀ x ∈ over g n t, 1 ≤ x
  | 0, x, hx => nomatch hx
  | t + 1, x, hx => by
    rw [over] at hx
    split at hx
    · rcases List.mem_append.mp hx with h1 | h1
      · exact over_pos h t x h1
      · rw [List.mem_singleton.mp h1]; exact room_pos h t
    · exact over_pos h t x hx
theorem sum_nonneg : ∀ {l : List Int}, (∀ x ∈ l, 1 ≤ x) → 0 ≤ l.sum
  | [], _ => Int.le_refl _
  | x :: l, h => by
    rw [List.sum_cons]
    have := sum_nonneg (l := l) fun y hy => h y (List.mem_cons_of_mem _ hy)
    have := h x (List.mem_cons_self ..)
    omega
theorem room_fix {g n : Int} {t : Nat} (h : ¬ room g n t < n) : ∀ j, room g n (t + j) = room g n t
  | 0 => rfl
  | j + 1 => by
    rw [← Nat.add_assoc, room, room_fix h j, if_neg h]
theorem room_big {g n : Int} (h : 2 ≤ g) : ∀ t : Nat, ¬ room g n t < n ∨ (2 : Int) ^ t ≤ room g n t
  | 0 => .inr (by show (2 : Int) ^ 0 ≤ 1; decide)
  | t + 1 => by
    rcases room_big (n := n) h t with q | q
    · exact .inl (by rw [room, if_neg q]; exact q)
    · by_cases e : room g n t < n
      · refine .inr ?_
        rw [room, if_pos e, Int.pow_succ, Int.mul_comm]
        exact Int.mul_le_mul h q (Int.le_of_lt (Int.pow_pos (by decide))) (by omega)
      · exact .inl (by rw [room, if_neg e]; exact e)
theorem room_lt {g n : Int} (h : 2 ≤ g) (hn : 1 ≤ n) : ∀ t, room g n t < g * n
  | 0 => by
    show (1 : Int) < g * n
    have := Int.mul_le_mul h hn (by decide) (by omega)
    omega
  | t + 1 => by
    rw [room]
    split
    · rename_i e
      exact Int.mul_lt_mul_of_pos_left e (by omega)
    · exact room_lt h hn t
theorem room_20 {g n : Int} (h : 2 ≤ g) (hn : n ≤ 1000000) : room g n 25 = room g n 20 := by
  refine room_fix (t := 20) ?_ 5
  rcases room_big (n := n) h 20 with q | q
  · exact q
  · have : (2 : Int) ^ 20 = 1048576 := by decide
    omega
theorem over_nil {g n : Int} (hn : n ≤ 0) (h : 2 ≤ g) : ∀ t, over g n t = []
  | 0 => rfl
  | t + 1 => by
    have := room_pos (n := n) h t
    rw [over, if_neg (by omega), over_nil hn h t]
theorem dcost_eq {g n : Int} (h : 2 ≤ g) (h0 : 0 ≤ n) (hn : n ≤ 1000000) : dcost g n = n + (over g n 25).sum := by
  unfold dcost
  split
  · rename_i e
    rw [over_nil (by omega) h, e]; rfl
  · have e := over_sum (g := g) (n := n) 25
    rw [room_20 h hn] at e
    rw [← e, Int.mul_ediv_cancel _ (by omega)]
theorem mean_ok {g n p q p' q' : Int} (h : 2 ≤ g) (h1 : 1 ≤ n) (hn : n ≤ 1000000) (hq : 0 < q) (hp : p * n = dcost g n * q) (hq' : 0 < q') (hp' : p' * (g - 1) = (2 * g - 1) * q') : p * q' < p' * q ∧ q ≤ p := by
  have e := dcost_eq h (by omega) hn
  have hs := sum_nonneg (over_pos (n := n) h 25)
  have es := over_sum (g := g) (n := n) 25
  have hr := room_lt h h1 25
  have hc : dcost g n * (g - 1) < (2 * g - 1) * n := by
    have e1 : (2 * g - 1) * n = n * (g - 1) + g * n := by
      rw [Int.sub_mul, Int.mul_sub, Int.mul_assoc, Int.mul_comm n g]; omega
    rw [e, Int.add_mul, es, e1]
    omega
  constructor
  · have hng : 0 < n * (g - 1) := Int.mul_pos (by omega) (by omega)
    refine Int.lt_of_mul_lt_mul_left (a := n * (g - 1)) ?_ (Int.le_of_lt hng)
    have l1 : n * (g - 1) * (p * q') = dcost g n * (g - 1) * (q * q') := by
      have : n * (g - 1) * (p * q') = (p * n) * ((g - 1) * q') := by simp only [Int.mul_comm, Int.mul_left_comm, Int.mul_assoc]
      rw [this, hp]
      simp only [Int.mul_comm, Int.mul_left_comm, Int.mul_assoc]
    have l2 : n * (g - 1) * (p' * q) = (2 * g - 1) * n * (q * q') := by
      have : n * (g - 1) * (p' * q) = (p' * (g - 1)) * (n * q) := by simp only [Int.mul_comm, Int.mul_left_comm, Int.mul_assoc]
      rw [this, hp']
      simp only [Int.mul_comm, Int.mul_left_comm, Int.mul_assoc]
    rw [l1, l2]
    exact Int.mul_lt_mul_of_pos_right hc (Int.mul_pos hq hq')
  · refine Int.le_of_mul_le_mul_right (a := n) ?_ (by omega)
    rw [hp, Int.mul_comm q n]
    exact Int.mul_le_mul_of_nonneg_right (by omega) (by omega)
theorem tri_succ (c : Int) : (c + 1) * (c + 1 - 1) / 2 = c * (c - 1) / 2 + c := by
  have e : (c + 1) * (c + 1 - 1) = c * (c - 1) + c * 2 := by
    rw [Int.add_sub_cancel, Int.add_mul, Int.mul_sub, Int.mul_one]; omega
  rw [e, Int.add_mul_ediv_right _ _ (by decide)]
theorem addc_eq {k m c : Int} (hk : 1 ≤ k) (hm : 0 ≤ m) (h0 : 0 ≤ c) (h1 : ¬ 1 + k * c < m) (h2 : c = 0 ∨ 1 + k * (c - 1) < m) : addc k m = m + c + k * (c * (c - 1) / 2) := by
  unfold addc
  split
  · rename_i e
    have : c = 0 := by
      rcases h2 with h | h
      · exact h
      · by_cases h3 : c = 0
        · exact h3
        · have := Int.mul_le_mul_of_nonneg_left (show (1 : Int) ≤ c by omega) (show (0 : Int) ≤ k by omega)
          rw [Int.mul_sub] at h
          omega
    subst this
    subst e
    simp
  · have e : (m - 1 + k - 1) / k = c := by
      refine Int.le_antisymm ?_ ?_
      · refine Int.le_of_lt_add_one (Int.ediv_lt_of_lt_mul (by omega) ?_)
        rw [Int.add_mul, Int.mul_comm c k]
        omega
      · refine Int.le_ediv_of_mul_le (by omega) ?_
        rcases h2 with h | h
        · subst h
          rw [Int.zero_mul]; omega
        · rw [Int.mul_sub, Int.mul_comm k c] at h
          omega
    rw [e]
theorem wp_law_is_growing_right (ds : List D) (B : Bag) (Q : D → Bag → Prop) (h : Γ 14 ds B Q) : wpFn (cut 14 Γ) sglaw_is_growing_right.N.length irlaw_is_growing_right ds B Q := by
  obtain ⟨rfl, q⟩ := h
  have G := cut_mono (m := 14) Γ_mono
  have hD : cut 14 Γ 10 = semDraw := rfl
  have hP : cut 14 Γ 11 = semPick := rfl
  have hM : cut 14 Γ 13 = S13 := rfl
  have h6 : cut 14 Γ 6 = S6 := rfl
  have h5 : cut 14 Γ 5 = S5 := rfl
  have h12 : cut 14 Γ 12 = semSame 4 := rfl
  have h8 : cut 14 Γ 8 = S8 := rfl
  have h7 : cut 14 Γ 7 = S7 := rfl
  have h9 : cut 14 Γ 9 = S9 := rfl
  unfold wpFn irlaw_is_growing_right
  rw [show sglaw_is_growing_right.N.length = 12 from rfl]
  (try dsimp only); rw [wps_cons]
  simp only [s_asg, s_asgO, s_unp, s_par, s_app, s_ext, s_seti, s_ex, s_ite, s_ret, s_retN, s_brk, s_cnt, s_pas, s_nvr, s_frz, s_mov, s_bpop, s_bset, wpE, wpEs, getV, getB, getO, bnd_some, tst_bl, binD, addD, subD, mulD, int2, cmpD, ordD, biD, one, extD, atD, bindT, bindTs, parT, ownS, iterD, itemsOf, partD, absE, sliD, revD, isTy, isNon, permD, List.set_cons_zero, List.set_cons_succ, List.getD_cons_zero, List.getD_cons_succ, frzS, frz1, wipeS, List.modify_zero_cons, List.modify_succ_cons, Bool.true_eq_false, Bool.false_eq_true, if_true, if_false, ite_true, ite_false, reduceIte, List.replicate, Nat.add_zero, Nat.zero_add, if_pos, Nat.one_ne_zero, Nat.reduceEqDiff, reduceCtorEq, decide_eq_true_eq, eqD, eqDs, ty_beq, decide_true, decide_false, Bool.not_true, Bool.not_false, wps_nil, List.map_cons, List.map_nil, List.cons_append, List.nil_append, Bool.and_true, Bool.true_and, Bool.and_false, Bool.false_and, not_true_eq_false, not_false_eq_true, List.length_cons, List.length_nil, at_0, at_1, at_2, at_3, hD, hP]
  refine draw_at (by decide) (by decide) fun g0 B1 g1 g2 => ?_
  refine ⟨by decide, by decide, draw_at (by decide) (by decide) fun n1 B2 n2 n3 => draw_at (by decide) (by decide) fun n4 B3 n5 n6 => pickL_at (by simp) (by simp) fun n0 hn B4 => ?_⟩
  obtain ⟨n, rfl, hn0, hn1⟩ : ∃ n : Int, n0 = .int n ∧ 0 ≤ n ∧ n ≤ 1000000 := by
    have e6 : (10 : Int) ^ Int.toNat 6 = 1000000 := by decide
    rw [e6] at n3
    simp only [List.mem_cons, List.not_mem_nil, or_false, e6] at hn
    rcases hn with rfl | rfl | rfl | rfl | rfl | rfl <;> exact ⟨_, rfl, by omega, by omega⟩
  clear hn
  obtain ⟨g, hg⟩ : ∃ g, 2 + g0 = g := ⟨_, rfl⟩
  have hg1 : 2 ≤ g := by omega
  have hg2 : g ≤ 8 := by omega
  rw [hg]
  try simp only [s_asg, s_asgO, s_unp, s_par, s_app, s_ext, s_seti, s_ex, s_ite, s_ret, s_retN, s_brk, s_cnt, s_pas, s_nvr, s_frz, s_mov, s_bpop, s_bset, wpE, wpEs, getV, getB, getO, bnd_some, tst_bl, binD, addD, subD, mulD, int2, cmpD, ordD, biD, one, extD, atD, bindT, bindTs, parT, ownS, iterD, itemsOf, partD, absE, sliD, revD, isTy, isNon, permD, List.set_cons_zero, List.set_cons_succ, List.getD_cons_zero, List.getD_cons_succ, frzS, frz1, wipeS, List.modify_zero_cons, List.modify_succ_cons, Bool.true_eq_false, Bool.false_eq_true, if_true, if_false, ite_true, ite_false, reduceIte, List.replicate, Nat.add_zero, Nat.zero_add, if_pos, Nat.one_ne_zero, Nat.reduceEqDiff, reduceCtorEq, decide_eq_true_eq, eqD, eqDs, ty_beq, decide_true, decide_false, Bool.not_true, Bool.not_false, wps_nil, List.map_cons, List.map_nil, List.cons_append, List.nil_append, Bool.and_true, Bool.true_and, Bool.and_false, Bool.false_and, not_true_eq_false, not_false_eq_true, List.length_cons, List.length_nil, at_0, at_1, at_2, at_3]
  (try dsimp only); rw [wps_cons]
  simp only [s_asg, s_asgO, s_unp, s_par, s_app, s_ext, s_seti, s_ex, s_ite, s_ret, s_retN, s_brk, s_cnt, s_pas, s_nvr, s_frz, s_mov, s_bpop, s_bset, wpE, wpEs, getV, getB, getO, bnd_some, tst_bl, binD, addD, subD, mulD, int2, cmpD, ordD, biD, one, extD, atD, bindT, bindTs, parT, ownS, iterD, itemsOf, partD, absE, sliD, revD, isTy, isNon, permD, List.set_cons_zero, List.set_cons_succ, List.getD_cons_zero, List.getD_cons_succ, frzS, frz1, wipeS, List.modify_zero_cons, List.modify_succ_cons, Bool.true_eq_false, Bool.false_eq_true, if_true, if_false, ite_true, ite_false, reduceIte, List.replicate, Nat.add_zero, Nat.zero_add, if_pos, Nat.one_ne_zero, Nat.reduceEqDiff, reduceCtorEq, decide_eq_true_eq, eqD, eqDs, ty_beq, decide_true, decide_false, Bool.not_true, Bool.not_false, wps_nil, List.map_cons, List.map_nil, List.cons_append, List.nil_append, Bool.and_true, Bool.true_and, Bool.and_false, Bool.false_and, not_true_eq_false, not_false_eq_true, List.length_cons, List.length_nil, at_0, at_1, at_2, at_3, hM]
  refine ⟨g, n, rfl, hg1, hg2, ?_⟩
  try simp only [s_asg, s_asgO, s_unp, s_par, s_app, s_ext, s_seti, s_ex, s_ite, s_ret, s_retN, s_brk, s_cnt, s_pas, s_nvr, s_frz, s_mov, s_bpop, s_bset, wpE, wpEs, getV, getB, getO, bnd_some, tst_bl, binD, addD, subD, mulD, int2, cmpD, ordD, biD, one, extD, atD, bindT, bindTs, parT, ownS, iterD, itemsOf, partD, absE, sliD, revD, isTy, isNon, permD, List.set_cons_zero, List.set_cons_succ, List.getD_cons_zero, List.getD_cons_succ, frzS, frz1, wipeS, List.modify_zero_cons, List.modify_succ_cons, Bool.true_eq_false, Bool.false_eq_true, if_true, if_false, ite_true, ite_false, reduceIte, List.replicate, Nat.add_zero, Nat.zero_add, if_pos, Nat.one_ne_zero, Nat.reduceEqDiff, reduceCtorEq, decide_eq_true_eq, eqD, eqDs, ty_beq, decide_true, decide_false, Bool.not_true, Bool.not_false, wps_nil, List.map_cons, List.map_nil, List.cons_append, List.nil_append, Bool.and_true, Bool.true_and, Bool.and_false, Bool.false_and, not_true_eq_false, not_false_eq_true, List.length_cons, List.length_nil, at_0, at_1, at_2, at_3]
  (try dsimp only); rw [wps_cons]
  simp only [s_asg, s_asgO, s_unp, s_par, s_app, s_ext, s_seti, s_ex, s_ite, s_ret, s_retN, s_brk, s_cnt, s_pas, s_nvr, s_frz, s_mov, s_bpop, s_bset, wpE, wpEs, getV, getB, getO, bnd_some, tst_bl, binD, addD, subD, mulD, int2, cmpD, ordD, biD, one, extD, atD, bindT, bindTs, parT, ownS, iterD, itemsOf, partD, absE, sliD, revD, isTy, isNon, permD, List.set_cons_zero, List.set_cons_succ, List.getD_cons_zero, List.getD_cons_succ, frzS, frz1, wipeS, List.modify_zero_cons, List.modify_succ_cons, Bool.true_eq_false, Bool.false_eq_true, if_true, if_false, ite_true, ite_false, reduceIte, List.replicate, Nat.add_zero, Nat.zero_add, if_pos, Nat.one_ne_zero, Nat.reduceEqDiff, reduceCtorEq, decide_eq_true_eq, eqD, eqDs, ty_beq, decide_true, decide_false, Bool.not_true, Bool.not_false, wps_nil, List.map_cons, List.map_nil, List.cons_append, List.nil_append, Bool.and_true, Bool.true_and, Bool.and_false, Bool.false_and, not_true_eq_false, not_false_eq_true, List.length_cons, List.length_nil, at_0, at_1, at_2, at_3, h5, h6]
  refine ⟨g, n, rfl, hg1, hg2, g, n, rfl, hg1, hg2, g, n, rfl, hg1, hg2, g, n, rfl, hg1, hg2, ?_⟩
  (try dsimp only); rw [wps_cons]
  simp only [s_asg, s_asgO, s_unp, s_par, s_app, s_ext, s_seti, s_ex, s_ite, s_ret, s_retN, s_brk, s_cnt, s_pas, s_nvr, s_frz, s_mov, s_bpop, s_bset, wpE, wpEs, getV, getB, getO, bnd_some, tst_bl, binD, addD, subD, mulD, int2, cmpD, ordD, biD, one, extD, atD, bindT, bindTs, parT, ownS, iterD, itemsOf, partD, absE, sliD, revD, isTy, isNon, permD, List.set_cons_zero, List.set_cons_succ, List.getD_cons_zero, List.getD_cons_succ, frzS, frz1, wipeS, List.modify_zero_cons, List.modify_succ_cons, Bool.true_eq_false, Bool.false_eq_true, if_true, if_false, ite_true, ite_false, reduceIte, List.replicate, Nat.add_zero, Nat.zero_add, if_pos, Nat.one_ne_zero, Nat.reduceEqDiff, reduceCtorEq, decide_eq_true_eq, eqD, eqDs, ty_beq, decide_true, decide_false, Bool.not_true, Bool.not_false, wps_nil, List.map_cons, List.map_nil, List.cons_append, List.nil_append, Bool.and_true, Bool.true_and, Bool.and_false, Bool.false_and, not_true_eq_false, not_false_eq_true, List.length_cons, List.length_nil, at_0, at_1, at_2, at_3, h12]
  refine ⟨_, rfl, _, rfl, same_at ?_ rfl ?_⟩
  · rw [dcost_eq hg1 hn0 hn1, room_20 hg1 hn1]
  try simp only [s_asg, s_asgO, s_unp, s_par, s_app, s_ext, s_seti, s_ex, s_ite, s_ret, s_retN, s_brk, s_cnt, s_pas, s_nvr, s_frz, s_mov, s_bpop, s_bset, wpE, wpEs, getV, getB, getO, bnd_some, tst_bl, binD, addD, subD, mulD, int2, cmpD, ordD, biD, one, extD, atD, bindT, bindTs, parT, ownS, iterD, itemsOf, partD, absE, sliD, revD, isTy, isNon, permD, List.set_cons_zero, List.set_cons_succ, List.getD_cons_zero, List.getD_cons_succ, frzS, frz1, wipeS, List.modify_zero_cons, List.modify_succ_cons, Bool.true_eq_false, Bool.false_eq_true, if_true, if_false, ite_true, ite_false, reduceIte, List.replicate, Nat.add_zero, Nat.zero_add, if_pos, Nat.one_ne_zero, Nat.reduceEqDiff, reduceCtorEq, decide_eq_true_eq, eqD, eqDs, ty_beq, decide_true, decide_false, Bool.not_true, Bool.not_false, wps_nil, List.map_cons, List.map_nil, List.cons_append, List.nil_append, Bool.and_true, Bool.true_and, Bool.and_false, Bool.false_and, not_true_eq_false, not_false_eq_true, List.length_cons, List.length_nil, at_0, at_1, at_2, at_3]
  (try dsimp only); rw [wps_cons]
  simp only [s_asg, s_asgO, s_unp, s_par, s_app, s_ext, s_seti, s_ex, s_ite, s_ret, s_retN, s_brk, s_cnt, s_pas, s_nvr, s_frz, s_mov, s_bpop, s_bset, wpE, wpEs, getV, getB, getO, bnd_some, tst_bl, binD, addD, subD, mulD, int2, cmpD, ordD, biD, one, extD, atD, bindT, bindTs, parT, ownS, iterD, itemsOf, partD, absE, sliD, revD, isTy, isNon, permD, List.set_cons_zero, List.set_cons_succ, List.getD_cons_zero, List.getD_cons_succ, frzS, frz1, wipeS, List.modify_zero_cons, List.modify_succ_cons, Bool.true_eq_false, Bool.false_eq_true, if_true, if_false, ite_true, ite_false, reduceIte, List.replicate, Nat.add_zero, Nat.zero_add, if_pos, Nat.one_ne_zero, Nat.reduceEqDiff, reduceCtorEq, decide_eq_true_eq, eqD, eqDs, ty_beq, decide_true, decide_false, Bool.not_true, Bool.not_false, wps_nil, List.map_cons, List.map_nil, List.cons_append, List.nil_append, Bool.and_true, Bool.true_and, Bool.and_false, Bool.false_and, not_true_eq_false, not_false_eq_true, List.length_cons, List.length_nil, at_0, at_1, at_2, at_3, h7, h8]
  have rest : ∀ (s3 s4 s5 s6 s7 : Sl) (B5 : Bag), wpSs (cut 14 Γ) [(.par [(8, false), (9, false)] [(.bin .add (.int 1) (.call 10 [(.var 0), (.int 60)])), (.call 10 [(.var 0), (.int 600)])]),
  (.par [(10, false), (4, false)] [(.var 9), (.int 1)]),
  (.fr (.nm 11) .rng [(.int 600)] [(.ite (.cmp .lt (.bor 4) (.bor 9))
  [(.par [(10, false), (4, false)] [(.bin .add (.bor 10) (.bor 4)), (.bin .add (.bor 4) (.bor 8))])]
  [])]),
  (.ret (.call 12 [(.tup [(.call 9 [(.var 8), (.var 9)]), (.calk 9 [(.var 9), (.var 8)] [1, 0])]), (.tup [(.var 10), (.var 10)])]))] ⟨fun _ B' => Q .non B', Q, fun _ _ => False, fun _ _ => False⟩ [.va .bag, .va (.int g), .va (.int n), s3, s4, s5, s6, s7, .no, .no, .no, .no] B5 := by
    intro s3 s4 s5 s6 s7 B5
    (try dsimp only); rw [wps_cons]
    simp only [s_asg, s_asgO, s_unp, s_par, s_app, s_ext, s_seti, s_ex, s_ite, s_ret, s_retN, s_brk, s_cnt, s_pas, s_nvr, s_frz, s_mov, s_bpop, s_bset, wpE, wpEs, getV, getB, getO, bnd_some, tst_bl, binD, addD, subD, mulD, int2, cmpD, ordD, biD, one, extD, atD, bindT, bindTs, parT, ownS, iterD, itemsOf, partD, absE, sliD, revD, isTy, isNon, permD, List.set_cons_zero, List.set_cons_succ, List.getD_cons_zero, List.getD_cons_succ, frzS, frz1, wipeS, List.modify_zero_cons, List.modify_succ_cons, Bool.true_eq_false, Bool.false_eq_true, if_true, if_false, ite_true, ite_false, reduceIte, List.replicate, Nat.add_zero, Nat.zero_add, if_pos, Nat.one_ne_zero, Nat.reduceEqDiff, reduceCtorEq, decide_eq_true_eq, eqD, eqDs, ty_beq, decide_true, decide_false, Bool.not_true, Bool.not_false, wps_nil, List.map_cons, List.map_nil, List.cons_append, List.nil_append, Bool.and_true, Bool.true_and, Bool.and_false, Bool.false_and, not_true_eq_false, not_false_eq_true, List.length_cons, List.length_nil, at_0, at_1, at_2, at_3, hD]
    refine draw_at (by decide) (by decide) fun k0 B6 k1 k2 => draw_at (by decide) (by decide) fun m B7 m1 m2 => ?_
    obtain ⟨k, hk⟩ : ∃ k, 1 + k0 = k := ⟨_, rfl⟩
    have hk1 : 1 ≤ k := by omega
    have hk2 : k ≤ 60 := by omega
    rw [hk]
    try simp only [s_asg, s_asgO, s_unp, s_par, s_app, s_ext, s_seti, s_ex, s_ite, s_ret, s_retN, s_brk, s_cnt, s_pas, s_nvr, s_frz, s_mov, s_bpop, s_bset, wpE, wpEs, getV, getB, getO, bnd_some, tst_bl, binD, addD, subD, mulD, int2, cmpD, ordD, biD, one, extD, atD, bindT, bindTs, parT, ownS, iterD, itemsOf, partD, absE, sliD, revD, isTy, isNon, permD, List.set_cons_zero, List.set_cons_succ, List.getD_cons_zero, List.getD_cons_succ, frzS, frz1, wipeS, List.modify_zero_cons, List.modify_succ_cons, Bool.true_eq_false, Bool.false_eq_true, if_true, if_false, ite_true, ite_false, reduceIte, List.replicate, Nat.add_zero, Nat.zero_add, if_pos, Nat.one_ne_zero, Nat.reduceEqDiff, reduceCtorEq, decide_eq_true_eq, eqD, eqDs, ty_beq, decide_true, decide_false, Bool.not_true, Bool.not_false, wps_nil, List.map_cons, List.map_nil, List.cons_append, List.nil_append, Bool.and_true, Bool.true_and, Bool.and_false, Bool.false_and, not_true_eq_false, not_false_eq_true, List.length_cons, List.length_nil, at_0, at_1, at_2, at_3]
    (try dsimp only); rw [wps_cons]
    simp only [s_asg, s_asgO, s_unp, s_par, s_app, s_ext, s_seti, s_ex, s_ite, s_ret, s_retN, s_brk, s_cnt, s_pas, s_nvr, s_frz, s_mov, s_bpop, s_bset, wpE, wpEs, getV, getB, getO, bnd_some, tst_bl, binD, addD, subD, mulD, int2, cmpD, ordD, biD, one, extD, atD, bindT, bindTs, parT, ownS, iterD, itemsOf, partD, absE, sliD, revD, isTy, isNon, permD, List.set_cons_zero, List.set_cons_succ, List.getD_cons_zero, List.getD_cons_succ, frzS, frz1, wipeS, List.modify_zero_cons, List.modify_succ_cons, Bool.true_eq_false, Bool.false_eq_true, if_true, if_false, ite_true, ite_false, reduceIte, List.replicate, Nat.add_zero, Nat.zero_add, if_pos, Nat.one_ne_zero, Nat.reduceEqDiff, reduceCtorEq, decide_eq_true_eq, eqD, eqDs, ty_beq, decide_true, decide_false, Bool.not_true, Bool.not_false, wps_nil, List.map_cons, List.map_nil, List.cons_append, List.nil_append, Bool.and_true, Bool.true_and, Bool.and_false, Bool.false_and, not_true_eq_false, not_false_eq_true, List.length_cons, List.length_nil, at_0, at_1, at_2, at_3]
    (try dsimp only); rw [wps_cons]
    refine wp_for G ?_
    simp only [s_asg, s_asgO, s_unp, s_par, s_app, s_ext, s_seti, s_ex, s_ite, s_ret, s_retN, s_brk, s_cnt, s_pas, s_nvr, s_frz, s_mov, s_bpop, s_bset, wpE, wpEs, getV, getB, getO, bnd_some, tst_bl, binD, addD, subD, mulD, int2, cmpD, ordD, biD, one, extD, atD, bindT, bindTs, parT, ownS, iterD, itemsOf, partD, absE, sliD, revD, isTy, isNon, permD, List.set_cons_zero, List.set_cons_succ, List.getD_cons_zero, List.getD_cons_succ, frzS, frz1, wipeS, List.modify_zero_cons, List.modify_succ_cons, Bool.true_eq_false, Bool.false_eq_true, if_true, if_false, ite_true, ite_false, reduceIte, List.replicate, Nat.add_zero, Nat.zero_add, if_pos, Nat.one_ne_zero, Nat.reduceEqDiff, reduceCtorEq, decide_eq_true_eq, eqD, eqDs, ty_beq, decide_true, decide_false, Bool.not_true, Bool.not_false, wps_nil, List.map_cons, List.map_nil, List.cons_append, List.nil_append, Bool.and_true, Bool.true_and, Bool.and_false, Bool.false_and, not_true_eq_false, not_false_eq_true, List.length_cons, List.length_nil, at_0, at_1, at_2, at_3]
    refine ⟨⟨by decide, by decide⟩, fun i σ B' => ∃ (c : Int) (s11 : Sl), 0 ≤ c ∧ (c = i ∨ ¬ 1 + k * c < m) ∧ (c = 0 ∨ 1 + k * (c - 1) < m) ∧ σ = [.va .bag, .va (.int g), .va (.int n), s3, .va (.int (1 + k * c)), s5, s6, s7, .va (.int k), .va (.int m), .va (.int (m + c + k * (c * (c - 1) / 2))), s11],
      ⟨0, .no, by decide, .inl rfl, .inl rfl, by simp⟩, ?_, ?_⟩
    · rintro i x σ B8 hx ⟨c, s11, hc0, hc1, hc2, rfl⟩
      simp only [s_asg, s_asgO, s_unp, s_par, s_app, s_ext, s_seti, s_ex, s_ite, s_ret, s_retN, s_brk, s_cnt, s_pas, s_nvr, s_frz, s_mov, s_bpop, s_bset, wpE, wpEs, getV, getB, getO, bnd_some, tst_bl, binD, addD, subD, mulD, int2, cmpD, ordD, biD, one, extD, atD, bindT, bindTs, parT, ownS, iterD, itemsOf, partD, absE, sliD, revD, isTy, isNon, permD, List.set_cons_zero, List.set_cons_succ, List.getD_cons_zero, List.getD_cons_succ, frzS, frz1, wipeS, List.modify_zero_cons, List.modify_succ_cons, Bool.true_eq_false, Bool.false_eq_true, if_true, if_false, ite_true, ite_false, reduceIte, List.replicate, Nat.add_zero, Nat.zero_add, if_pos, Nat.one_ne_zero, Nat.reduceEqDiff, reduceCtorEq, decide_eq_true_eq, eqD, eqDs, ty_beq, decide_true, decide_false, Bool.not_true, Bool.not_false, wps_cons, wps_nil, List.map_cons, List.map_nil, List.cons_append, List.nil_append, Bool.and_true, Bool.true_and, Bool.and_false, Bool.false_and, not_true_eq_false, not_false_eq_true, List.length_cons, List.length_nil, at_0, at_1, at_2, at_3]
      refine iteI (fun e => ⟨c + 1, .va x, by omega, ?_, .inr ?_, ?_⟩) (fun e => ⟨c, .va x, hc0, .inr e, hc2, rfl⟩)
      · rcases hc1 with rfl | h
        · exact .inl rfl
        · exact absurd e h
      · rw [Int.add_sub_cancel]; exact e
      · rw [tri_succ, Int.mul_add k c 1, Int.mul_add k (c * (c - 1) / 2) c, Int.mul_one]
        have e1 : m + c + k * (c * (c - 1) / 2) + (1 + k * c) = m + (c + 1) + (k * (c * (c - 1) / 2) + k * c) := by omega
        have e2 : 1 + k * c + k = 1 + (k * c + k) := by omega
        rw [e1, e2]
    · rintro σ B8 ⟨c, s11, hc0, hc1, hc2, rfl⟩
      simp only [s_asg, s_asgO, s_unp, s_par, s_app, s_ext, s_seti, s_ex, s_ite, s_ret, s_retN, s_brk, s_cnt, s_pas, s_nvr, s_frz, s_mov, s_bpop, s_bset, wpE, wpEs, getV, getB, getO, bnd_some, tst_bl, binD, addD, subD, mulD, int2, cmpD, ordD, biD, one, extD, atD, bindT, bindTs, parT, ownS, iterD, itemsOf, partD, absE, sliD, revD, isTy, isNon, permD, List.set_cons_zero, List.set_cons_succ, List.getD_cons_zero, List.getD_cons_succ, frzS, frz1, wipeS, List.modify_zero_cons, List.modify_succ_cons, Bool.true_eq_false, Bool.false_eq_true, if_true, if_false, ite_true, ite_false, reduceIte, List.replicate, Nat.add_zero, Nat.zero_add, if_pos, Nat.one_ne_zero, Nat.reduceEqDiff, reduceCtorEq, decide_eq_true_eq, eqD, eqDs, ty_beq, decide_true, decide_false, Bool.not_true, Bool.not_false, wps_cons, wps_nil, List.map_cons, List.map_nil, List.cons_append, List.nil_append, Bool.and_true, Bool.true_and, Bool.and_false, Bool.false_and, not_true_eq_false, not_false_eq_true, List.length_cons, List.length_nil, at_0, at_1, at_2, at_3, h9, h12]
      refine ⟨k, m, rfl, hk1, by omega, m1, by omega, k, m, rfl, hk1, by omega, m1, by omega, same_at ?_ rfl (q _)⟩
      have hc3 : ¬ 1 + k * c < m := by
        rcases hc1 with h | h
        · intro h2
          rw [rngD_len] at h
          have h : c = 600 := h
          have h3 := Int.mul_le_mul_of_nonneg_right hk1 hc0
          omega
        · exact h
      rw [addc_eq hk1 m1 hc0 hc3 hc2]
  refine iteI (fun hn => ⟨g, n, rfl, hg1, hg2, by omega, by omega, fun p q hq hqn hp => ?_⟩) fun _ => rest _ _ _ _ _ _
  refine ⟨g, rfl, hg1, hg2, fun p' q' hq' hqg hp' => ?_⟩
  have mo := mean_ok hg1 (by omega) hn1 hq hp hq' hp'
  (try dsimp only); (try simp only [s_asg, s_asgO, s_unp, s_par, s_app, s_ext, s_seti, s_ex, s_ite, s_ret, s_retN, s_brk, s_cnt, s_pas, s_nvr, s_frz, s_mov, s_bpop, s_bset, wpE, wpEs, getV, getB, getO, bnd_some, tst_bl, binD, addD, subD, mulD, int2, cmpD, ordD, biD, one, extD, atD, bindT, bindTs, parT, ownS, iterD, itemsOf, partD, absE, sliD, revD, isTy, isNon, permD, List.set_cons_zero, List.set_cons_succ, List.getD_cons_zero, List.getD_cons_succ, frzS, frz1, wipeS, List.modify_zero_cons, List.modify_succ_cons, Bool.true_eq_false, Bool.false_eq_true, if_true, if_false, ite_true, ite_false, reduceIte, List.replicate, Nat.add_zero, Nat.zero_add, if_pos, Nat.one_ne_zero, Nat.reduceEqDiff, reduceCtorEq, decide_eq_true_eq, eqD, eqDs, ty_beq, decide_true, decide_false, Bool.not_true, Bool.not_false, wps_nil, List.map_cons, List.map_nil, List.cons_append, List.nil_append, Bool.and_true, Bool.true_and, Bool.and_false, Bool.false_and, not_true_eq_false, not_false_eq_true, List.length_cons, List.length_nil, at_0, at_1, at_2, at_3]); rw [wps_cons]
  have hs := dcost_eq hg1 hn0 hn1
  simp only [s_asg, s_asgO, s_unp, s_par, s_app, s_ext, s_seti, s_ex, s_ite, s_ret, s_retN, s_brk, s_cnt, s_pas, s_nvr, s_frz, s_mov, s_bpop, s_bset, wpE, wpEs, getV, getB, getO, bnd_some, tst_bl, binD, addD, subD, mulD, int2, cmpD, ordD, biD, one, extD, atD, bindT, bindTs, parT, ownS, iterD, itemsOf, partD, absE, sliD, revD, isTy, isNon, permD, List.set_cons_zero, List.set_cons_succ, List.getD_cons_zero, List.getD_cons_succ, frzS, frz1, wipeS, List.modify_zero_cons, List.modify_succ_cons, Bool.true_eq_false, Bool.false_eq_true, if_true, if_false, ite_true, ite_false, reduceIte, List.replicate, Nat.add_zero, Nat.zero_add, if_pos, Nat.one_ne_zero, Nat.reduceEqDiff, reduceCtorEq, decide_eq_true_eq, eqD, eqDs, ty_beq, decide_true, decide_false, Bool.not_true, Bool.not_false, wps_nil, List.map_cons, List.map_nil, List.cons_append, List.nil_append, Bool.and_true, Bool.true_and, Bool.and_false, Bool.false_and, not_true_eq_false, not_false_eq_true, List.length_cons, List.length_nil, at_0, at_1, at_2, at_3]
  refine ⟨mulOk_r (by omega), _, rfl, mulOk_r (by omega), ⟨rfl, rfl⟩, ?_⟩
  refine iteI (fun e => ?_) (fun _ => ⟨mulOk_r (by omega), mulOk_r (by omega), iteI (fun e => ?_) fun _ => iteI (fun e => ?_) fun _ => rest _ _ _ _ _ _⟩)
  · rw [hs] at hp
    simp [hp] at e
  · omega
  · omega
def puts : List (Option Int) → Nat
  | [] => 0
  | none :: r => puts r + 1
  | some _ :: r => puts r
theorem puts_le : ∀ l, puts l ≤ l.length
  | [] => Nat.le_refl _
  | none :: r => Nat.succ_le_succ (puts_le r)
  | some _ :: r => Nat.le_succ_of_le (puts_le r)
theorem puts_append : ∀ a b, puts (a ++ b) = puts a + puts b
  | [], b => by simp [puts]
  | none :: r, b => by simp only [List.cons_append, puts, puts_append r b]; omega
  | some _ :: r, b => by simp only [List.cons_append, puts, puts_append r b]
theorem run_sum : ∀ (s : Int) (l : List (Option Int)), (runC s l).sum = l.length + puts l + s - runS s l
  | s, [] => by simp [runC, runS, puts]
  | s, none :: r => by
    have := run_sum (after s none) r
    simp only [runC, runS, puts, List.sum_cons, this, List.length_cons, cost]
    simp only [after]
    omega
  | s, some d :: r => by
    have := run_sum (after s (some d)) r
    simp only [runC, runS, puts, List.sum_cons, this, List.length_cons, cost]
    have e : after s (some d) = s - (if d < s then d else s) := by
      simp only [after]
      split <;> split <;> omega
    rw [e]
    omega
theorem none_len : ∀ l : List (Option Int), ((l.map dd).flatMap fun x => if isNon x = true then [x] else []).length = puts l
  | [] => rfl
  | none :: r => by
    rw [List.map_cons, List.flatMap_cons, List.length_append, none_len r]
    show 1 + puts r = puts r + 1
    omega
  | some _ :: r => by
    rw [List.map_cons, List.flatMap_cons, List.length_append, none_len r]
    show 0 + puts r = puts r
    omega
theorem some_len : ∀ l : List (Option Int), ((l.map dd).flatMap fun x => if isNon x = true then [] else [x]).length = l.length - puts l
  | [] => rfl
  | none :: r => by
    rw [List.map_cons, List.flatMap_cons, List.length_append, some_len r]
    show 0 + (r.length - puts r) = r.length + 1 - (puts r + 1)
    omega
  | some _ :: r => by
    have := puts_le r
    rw [List.map_cons, List.flatMap_cons, List.length_append, some_len r]
    show 1 + (r.length - puts r) = r.length + 1 - puts r
    omega
theorem mem_cut {xs : List D} {lo hi : Option Int} {x : D} (h : x ∈ cutD xs lo hi) : x ∈ xs := List.mem_of_mem_drop (List.mem_of_mem_take h)
theorem mem_dd {l : List (Option Int)} {x : D} (h : x ∈ l.map dd) : ∃ d, x = dd d := by
  obtain ⟨d, _, e⟩ := List.mem_map.mp h
  exact ⟨d, e.symm⟩
theorem wp_law_is_stack_right (ds : List D) (B : Bag) (Q : D → Bag → Prop) (h : Γ 17 ds B Q) : wpFn (cut 17 Γ) sglaw_is_stack_right.N.length irlaw_is_stack_right ds B Q := by
  obtain ⟨rfl, q⟩ := h
  have G := cut_mono (m := 17) Γ_mono
  have hD : cut 17 Γ 10 = semDraw := rfl
  have hP : cut 17 Γ 11 = semPick := rfl
  have h16 : cut 17 Γ 16 = S16 := rfl
  have h15 : cut 17 Γ 15 = S15 := rfl
  have h12 : cut 17 Γ 12 = semSame 4 := rfl
  have h2 : cut 17 Γ 2 = S2 := rfl
  have h1 : cut 17 Γ 1 = S1 := rfl
  have h0 : cut 17 Γ 0 = S0 := rfl
  unfold wpFn irlaw_is_stack_right
  rw [show sglaw_is_stack_right.N.length = 11 from rfl]
  (try dsimp only); rw [wps_cons]
  simp only [s_asg, s_asgO, s_unp, s_par, s_app, s_ext, s_seti, s_ex, s_ite, s_ret, s_retN, s_brk, s_cnt, s_pas, s_nvr, s_frz, s_mov, s_bpop, s_bset, wpE, wpEs, getV, getB, getO, bnd_some, tst_bl, binD, addD, subD, mulD, int2, cmpD, ordD, biD, one, extD, atD, bindT, bindTs, parT, ownS, iterD, itemsOf, partD, absE, sliD, revD, isTy, isNon, permD, List.set_cons_zero, List.set_cons_succ, List.getD_cons_zero, List.getD_cons_succ, frzS, frz1, wipeS, List.modify_zero_cons, List.modify_succ_cons, Bool.true_eq_false, Bool.false_eq_true, if_true, if_false, ite_true, ite_false, reduceIte, List.replicate, Nat.add_zero, Nat.zero_add, if_pos, Nat.one_ne_zero, Nat.reduceEqDiff, reduceCtorEq, decide_eq_true_eq, eqD, eqDs, ty_beq, decide_true, decide_false, Bool.not_true, Bool.not_false, wps_nil, List.map_cons, List.map_nil, List.cons_append, List.nil_append, Bool.and_true, Bool.true_and, Bool.and_false, Bool.false_and, not_true_eq_false, not_false_eq_true, List.length_cons, List.length_nil, at_0, at_1, at_2, at_3, hD, hP]
  refine draw_at (by decide) (by decide) fun d0 B1 d1 d2 => pickL_at (by simp) (by simp) fun s0 hs B2 => ?_
  obtain ⟨s, rfl, hs0, hs1⟩ : ∃ s : Int, s0 = .int s ∧ 0 ≤ s ∧ s ≤ 60 := by
    simp only [List.mem_cons, List.not_mem_nil, or_false] at hs
    rcases hs with rfl | rfl | rfl | rfl <;> exact ⟨_, rfl, by omega, by omega⟩
  clear hs
  (try dsimp only); rw [wps_cons]
  simp only [s_asg, s_asgO, s_unp, s_par, s_app, s_ext, s_seti, s_ex, s_ite, s_ret, s_retN, s_brk, s_cnt, s_pas, s_nvr, s_frz, s_mov, s_bpop, s_bset, wpE, wpEs, getV, getB, getO, bnd_some, tst_bl, binD, addD, subD, mulD, int2, cmpD, ordD, biD, one, extD, atD, bindT, bindTs, parT, ownS, iterD, itemsOf, partD, absE, sliD, revD, isTy, isNon, permD, List.set_cons_zero, List.set_cons_succ, List.getD_cons_zero, List.getD_cons_succ, frzS, frz1, wipeS, List.modify_zero_cons, List.modify_succ_cons, Bool.true_eq_false, Bool.false_eq_true, if_true, if_false, ite_true, ite_false, reduceIte, List.replicate, Nat.add_zero, Nat.zero_add, if_pos, Nat.one_ne_zero, Nat.reduceEqDiff, reduceCtorEq, decide_eq_true_eq, eqD, eqDs, ty_beq, decide_true, decide_false, Bool.not_true, Bool.not_false, wps_nil, List.map_cons, List.map_nil, List.cons_append, List.nil_append, Bool.and_true, Bool.true_and, Bool.and_false, Bool.false_and, not_true_eq_false, not_false_eq_true, List.length_cons, List.length_nil, at_0, at_1, at_2, at_3, h16]
  refine ⟨s, rfl, hs0, by omega, fun l B3 hl hl2 => ?_⟩
  (try dsimp only); rw [wps_cons]
  simp only [s_asg, s_asgO, s_unp, s_par, s_app, s_ext, s_seti, s_ex, s_ite, s_ret, s_retN, s_brk, s_cnt, s_pas, s_nvr, s_frz, s_mov, s_bpop, s_bset, wpE, wpEs, getV, getB, getO, bnd_some, tst_bl, binD, addD, subD, mulD, int2, cmpD, ordD, biD, one, extD, atD, bindT, bindTs, parT, ownS, iterD, itemsOf, partD, absE, sliD, revD, isTy, isNon, permD, List.set_cons_zero, List.set_cons_succ, List.getD_cons_zero, List.getD_cons_succ, frzS, frz1, wipeS, List.modify_zero_cons, List.modify_succ_cons, Bool.true_eq_false, Bool.false_eq_true, if_true, if_false, ite_true, ite_false, reduceIte, List.replicate, Nat.add_zero, Nat.zero_add, if_pos, Nat.one_ne_zero, Nat.reduceEqDiff, reduceCtorEq, decide_eq_true_eq, eqD, eqDs, ty_beq, decide_true, decide_false, Bool.not_true, Bool.not_false, wps_nil, List.map_cons, List.map_nil, List.cons_append, List.nil_append, Bool.and_true, Bool.true_and, Bool.and_false, Bool.false_and, not_true_eq_false, not_false_eq_true, List.length_cons, List.length_nil, at_0, at_1, at_2, at_3, h15]
  refine ⟨s, l, rfl, by omega, ?_⟩
  (try simp only [s_asg, s_asgO, s_unp, s_par, s_app, s_ext, s_seti, s_ex, s_ite, s_ret, s_retN, s_brk, s_cnt, s_pas, s_nvr, s_frz, s_mov, s_bpop, s_bset, wpE, wpEs, getV, getB, getO, bnd_some, tst_bl, binD, addD, subD, mulD, int2, cmpD, ordD, biD, one, extD, atD, bindT, bindTs, parT, ownS, iterD, itemsOf, partD, absE, sliD, revD, isTy, isNon, permD, List.set_cons_zero, List.set_cons_succ, List.getD_cons_zero, List.getD_cons_succ, frzS, frz1, wipeS, List.modify_zero_cons, List.modify_succ_cons, Bool.true_eq_false, Bool.false_eq_true, if_true, if_false, ite_true, ite_false, reduceIte, List.replicate, Nat.add_zero, Nat.zero_add, if_pos, Nat.one_ne_zero, Nat.reduceEqDiff, reduceCtorEq, decide_eq_true_eq, eqD, eqDs, ty_beq, decide_true, decide_false, Bool.not_true, Bool.not_false, wps_nil, List.map_cons, List.map_nil, List.cons_append, List.nil_append, Bool.and_true, Bool.true_and, Bool.and_false, Bool.false_and, not_true_eq_false, not_false_eq_true, List.length_cons, List.length_nil, at_0, at_1, at_2, at_3]); rw [wps_cons]
  simp only [s_asg, s_asgO, s_unp, s_par, s_app, s_ext, s_seti, s_ex, s_ite, s_ret, s_retN, s_brk, s_cnt, s_pas, s_nvr, s_frz, s_mov, s_bpop, s_bset, wpE, wpEs, getV, getB, getO, bnd_some, tst_bl, binD, addD, subD, mulD, int2, cmpD, ordD, biD, one, extD, atD, bindT, bindTs, parT, ownS, iterD, itemsOf, partD, absE, sliD, revD, isTy, isNon, permD, List.set_cons_zero, List.set_cons_succ, List.getD_cons_zero, List.getD_cons_succ, frzS, frz1, wipeS, List.modify_zero_cons, List.modify_succ_cons, Bool.true_eq_false, Bool.false_eq_true, if_true, if_false, ite_true, ite_false, reduceIte, List.replicate, Nat.add_zero, Nat.zero_add, if_pos, Nat.one_ne_zero, Nat.reduceEqDiff, reduceCtorEq, decide_eq_true_eq, eqD, eqDs, ty_beq, decide_true, decide_false, Bool.not_true, Bool.not_false, wps_nil, List.map_cons, List.map_nil, List.cons_append, List.nil_append, Bool.and_true, Bool.true_and, Bool.and_false, Bool.false_and, not_true_eq_false, not_false_eq_true, List.length_cons, List.length_nil, at_0, at_1, at_2, at_3, h2, h12]
  refine ⟨s, l, rfl, by omega, s, l, rfl, by omega, same_at rfl (by simp [sok, soks, soks_ints]) ?_⟩
  (try simp only [s_asg, s_asgO, s_unp, s_par, s_app, s_ext, s_seti, s_ex, s_ite, s_ret, s_retN, s_brk, s_cnt, s_pas, s_nvr, s_frz, s_mov, s_bpop, s_bset, wpE, wpEs, getV, getB, getO, bnd_some, tst_bl, binD, addD, subD, mulD, int2, cmpD, ordD, biD, one, extD, atD, bindT, bindTs, parT, ownS, iterD, itemsOf, partD, absE, sliD, revD, isTy, isNon, permD, List.set_cons_zero, List.set_cons_succ, List.getD_cons_zero, List.getD_cons_succ, frzS, frz1, wipeS, List.modify_zero_cons, List.modify_succ_cons, Bool.true_eq_false, Bool.false_eq_true, if_true, if_false, ite_true, ite_false, reduceIte, List.replicate, Nat.add_zero, Nat.zero_add, if_pos, Nat.one_ne_zero, Nat.reduceEqDiff, reduceCtorEq, decide_eq_true_eq, eqD, eqDs, ty_beq, decide_true, decide_false, Bool.not_true, Bool.not_false, wps_nil, List.map_cons, List.map_nil, List.cons_append, List.nil_append, Bool.and_true, Bool.true_and, Bool.and_false, Bool.false_and, not_true_eq_false, not_false_eq_true, List.length_cons, List.length_nil, at_0, at_1, at_2, at_3]); rw [wps_cons]
  simp only [s_asg, s_asgO, s_unp, s_par, s_app, s_ext, s_seti, s_ex, s_ite, s_ret, s_retN, s_brk, s_cnt, s_pas, s_nvr, s_frz, s_mov, s_bpop, s_bset, wpE, wpEs, getV, getB, getO, bnd_some, tst_bl, binD, addD, subD, mulD, int2, cmpD, ordD, biD, one, extD, atD, bindT, bindTs, parT, ownS, iterD, itemsOf, partD, absE, sliD, revD, isTy, isNon, permD, List.set_cons_zero, List.set_cons_succ, List.getD_cons_zero, List.getD_cons_succ, frzS, frz1, wipeS, List.modify_zero_cons, List.modify_succ_cons, Bool.true_eq_false, Bool.false_eq_true, if_true, if_false, ite_true, ite_false, reduceIte, List.replicate, Nat.add_zero, Nat.zero_add, if_pos, Nat.one_ne_zero, Nat.reduceEqDiff, reduceCtorEq, decide_eq_true_eq, eqD, eqDs, ty_beq, decide_true, decide_false, Bool.not_true, Bool.not_false, wps_nil, List.map_cons, List.map_nil, List.cons_append, List.nil_append, Bool.and_true, Bool.true_and, Bool.and_false, Bool.false_and, not_true_eq_false, not_false_eq_true, List.length_cons, List.length_nil, at_0, at_1, at_2, at_3]
  refine lcL_map (g := fun x => if isNon x = true then [x] else []) (fun x hx B K hK => ?_) ?_
  · cases x <;> exact hK
  rw [none_len]
  (try simp only [s_asg, s_asgO, s_unp, s_par, s_app, s_ext, s_seti, s_ex, s_ite, s_ret, s_retN, s_brk, s_cnt, s_pas, s_nvr, s_frz, s_mov, s_bpop, s_bset, wpE, wpEs, getV, getB, getO, bnd_some, tst_bl, binD, addD, subD, mulD, int2, cmpD, ordD, biD, one, extD, atD, bindT, bindTs, parT, ownS, iterD, itemsOf, partD, absE, sliD, revD, isTy, isNon, permD, List.set_cons_zero, List.set_cons_succ, List.getD_cons_zero, List.getD_cons_succ, frzS, frz1, wipeS, List.modify_zero_cons, List.modify_succ_cons, Bool.true_eq_false, Bool.false_eq_true, if_true, if_false, ite_true, ite_false, reduceIte, List.replicate, Nat.add_zero, Nat.zero_add, if_pos, Nat.one_ne_zero, Nat.reduceEqDiff, reduceCtorEq, decide_eq_true_eq, eqD, eqDs, ty_beq, decide_true, decide_false, Bool.not_true, Bool.not_false, wps_nil, List.map_cons, List.map_nil, List.cons_append, List.nil_append, Bool.and_true, Bool.true_and, Bool.and_false, Bool.false_and, not_true_eq_false, not_false_eq_true, List.length_cons, List.length_nil, at_0, at_1, at_2, at_3]); rw [wps_cons]
  simp only [s_asg, s_asgO, s_unp, s_par, s_app, s_ext, s_seti, s_ex, s_ite, s_ret, s_retN, s_brk, s_cnt, s_pas, s_nvr, s_frz, s_mov, s_bpop, s_bset, wpE, wpEs, getV, getB, getO, bnd_some, tst_bl, binD, addD, subD, mulD, int2, cmpD, ordD, biD, one, extD, atD, bindT, bindTs, parT, ownS, iterD, itemsOf, partD, absE, sliD, revD, isTy, isNon, permD, List.set_cons_zero, List.set_cons_succ, List.getD_cons_zero, List.getD_cons_succ, frzS, frz1, wipeS, List.modify_zero_cons, List.modify_succ_cons, Bool.true_eq_false, Bool.false_eq_true, if_true, if_false, ite_true, ite_false, reduceIte, List.replicate, Nat.add_zero, Nat.zero_add, if_pos, Nat.one_ne_zero, Nat.reduceEqDiff, reduceCtorEq, decide_eq_true_eq, eqD, eqDs, ty_beq, decide_true, decide_false, Bool.not_true, Bool.not_false, wps_nil, List.map_cons, List.map_nil, List.cons_append, List.nil_append, Bool.and_true, Bool.true_and, Bool.and_false, Bool.false_and, not_true_eq_false, not_false_eq_true, List.length_cons, List.length_nil, at_0, at_1, at_2, at_3]
  refine ⟨_, rfl, mulOk_l (by decide), ⟨rfl, rfl⟩, iteI (fun e => ?_) fun _ => ?_⟩
  · have := run_sum s l
    rw [List.length_map] at e
    simp only [Bool.not_eq_true', decide_eq_false_iff_not] at e
    omega
  (try simp only [s_asg, s_asgO, s_unp, s_par, s_app, s_ext, s_seti, s_ex, s_ite, s_ret, s_retN, s_brk, s_cnt, s_pas, s_nvr, s_frz, s_mov, s_bpop, s_bset, wpE, wpEs, getV, getB, getO, bnd_some, tst_bl, binD, addD, subD, mulD, int2, cmpD, ordD, biD, one, extD, atD, bindT, bindTs, parT, ownS, iterD, itemsOf, partD, absE, sliD, revD, isTy, isNon, permD, List.set_cons_zero, List.set_cons_succ, List.getD_cons_zero, List.getD_cons_succ, frzS, frz1, wipeS, List.modify_zero_cons, List.modify_succ_cons, Bool.true_eq_false, Bool.false_eq_true, if_true, if_false, ite_true, ite_false, reduceIte, List.replicate, Nat.add_zero, Nat.zero_add, if_pos, Nat.one_ne_zero, Nat.reduceEqDiff, reduceCtorEq, decide_eq_true_eq, eqD, eqDs, ty_beq, decide_true, decide_false, Bool.not_true, Bool.not_false, wps_nil, List.map_cons, List.map_nil, List.cons_append, List.nil_append, Bool.and_true, Bool.true_and, Bool.and_false, Bool.false_and, not_true_eq_false, not_false_eq_true, List.length_cons, List.length_nil, at_0, at_1, at_2, at_3]); rw [wps_cons]
  simp only [s_asg, s_asgO, s_unp, s_par, s_app, s_ext, s_seti, s_ex, s_ite, s_ret, s_retN, s_brk, s_cnt, s_pas, s_nvr, s_frz, s_mov, s_bpop, s_bset, wpE, wpEs, getV, getB, getO, bnd_some, tst_bl, binD, addD, subD, mulD, int2, cmpD, ordD, biD, one, extD, atD, bindT, bindTs, parT, ownS, iterD, itemsOf, partD, absE, sliD, revD, isTy, isNon, permD, List.set_cons_zero, List.set_cons_succ, List.getD_cons_zero, List.getD_cons_succ, frzS, frz1, wipeS, List.modify_zero_cons, List.modify_succ_cons, Bool.true_eq_false, Bool.false_eq_true, if_true, if_false, ite_true, ite_false, reduceIte, List.replicate, Nat.add_zero, Nat.zero_add, if_pos, Nat.one_ne_zero, Nat.reduceEqDiff, reduceCtorEq, decide_eq_true_eq, eqD, eqDs, ty_beq, decide_true, decide_false, Bool.not_true, Bool.not_false, wps_nil, List.map_cons, List.map_nil, List.cons_append, List.nil_append, Bool.and_true, Bool.true_and, Bool.and_false, Bool.false_and, not_true_eq_false, not_false_eq_true, List.length_cons, List.length_nil, at_0, at_1, at_2, at_3]
  rw [wps_cons]
  refine wp_for G ?_
  simp only [s_asg, s_asgO, s_unp, s_par, s_app, s_ext, s_seti, s_ex, s_ite, s_ret, s_retN, s_brk, s_cnt, s_pas, s_nvr, s_frz, s_mov, s_bpop, s_bset, wpE, wpEs, getV, getB, getO, bnd_some, tst_bl, binD, addD, subD, mulD, int2, cmpD, ordD, biD, one, extD, atD, bindT, bindTs, parT, ownS, iterD, itemsOf, partD, absE, sliD, revD, isTy, isNon, permD, List.set_cons_zero, List.set_cons_succ, List.getD_cons_zero, List.getD_cons_succ, frzS, frz1, wipeS, List.modify_zero_cons, List.modify_succ_cons, Bool.true_eq_false, Bool.false_eq_true, if_true, if_false, ite_true, ite_false, reduceIte, List.replicate, Nat.add_zero, Nat.zero_add, if_pos, Nat.one_ne_zero, Nat.reduceEqDiff, reduceCtorEq, decide_eq_true_eq, eqD, eqDs, ty_beq, decide_true, decide_false, Bool.not_true, Bool.not_false, wps_nil, List.map_cons, List.map_nil, List.cons_append, List.nil_append, Bool.and_true, Bool.true_and, Bool.and_false, Bool.false_and, not_true_eq_false, not_false_eq_true, List.length_cons, List.length_nil, at_0, at_1, at_2, at_3]
  refine ⟨fun i σ _ => ∃ (here : Int) (s7 s8 s9 s10 : Sl), σ = [.va .bag, .va (.int s), .va (.tup (l.map dd)), .va (.tup ((runC s l).map D.int)), .va (.int (runS s l)), .va (.int (puts l)), .va (.int here), s7, s8, s9, s10], ⟨s, .no, .no, .no, .no, rfl⟩, ?_, ?_⟩
  · rintro i x σ B4 hx ⟨here, s7, s8, s9, s10, rfl⟩
    obtain ⟨d, rfl⟩ := mem_dd (mem_cut (List.mem_of_getElem? hx))
    simp only [s_asg, s_asgO, s_unp, s_par, s_app, s_ext, s_seti, s_ex, s_ite, s_ret, s_retN, s_brk, s_cnt, s_pas, s_nvr, s_frz, s_mov, s_bpop, s_bset, wpE, wpEs, getV, getB, getO, bnd_some, tst_bl, binD, addD, subD, mulD, int2, cmpD, ordD, biD, one, extD, atD, bindT, bindTs, parT, ownS, iterD, itemsOf, partD, absE, sliD, revD, isTy, isNon, permD, List.set_cons_zero, List.set_cons_succ, List.getD_cons_zero, List.getD_cons_succ, frzS, frz1, wipeS, List.modify_zero_cons, List.modify_succ_cons, Bool.true_eq_false, Bool.false_eq_true, if_true, if_false, ite_true, ite_false, reduceIte, List.replicate, Nat.add_zero, Nat.zero_add, if_pos, Nat.one_ne_zero, Nat.reduceEqDiff, reduceCtorEq, decide_eq_true_eq, eqD, eqDs, ty_beq, decide_true, decide_false, Bool.not_true, Bool.not_false, wps_nil, List.map_cons, List.map_nil, List.cons_append, List.nil_append, Bool.and_true, Bool.true_and, Bool.and_false, Bool.false_and, not_true_eq_false, not_false_eq_true, List.length_cons, List.length_nil, at_0, at_1, at_2, at_3]
    rw [wps_cons]
    simp only [s_asg, s_asgO, s_unp, s_par, s_app, s_ext, s_seti, s_ex, s_ite, s_ret, s_retN, s_brk, s_cnt, s_pas, s_nvr, s_frz, s_mov, s_bpop, s_bset, wpE, wpEs, getV, getB, getO, bnd_some, tst_bl, binD, addD, subD, mulD, int2, cmpD, ordD, biD, one, extD, atD, bindT, bindTs, parT, ownS, iterD, itemsOf, partD, absE, sliD, revD, isTy, isNon, permD, List.set_cons_zero, List.set_cons_succ, List.getD_cons_zero, List.getD_cons_succ, frzS, frz1, wipeS, List.modify_zero_cons, List.modify_succ_cons, Bool.true_eq_false, Bool.false_eq_true, if_true, if_false, ite_true, ite_false, reduceIte, List.replicate, Nat.add_zero, Nat.zero_add, if_pos, Nat.one_ne_zero, Nat.reduceEqDiff, reduceCtorEq, decide_eq_true_eq, eqD, eqDs, ty_beq, decide_true, decide_false, Bool.not_true, Bool.not_false, wps_nil, List.map_cons, List.map_nil, List.cons_append, List.nil_append, Bool.and_true, Bool.true_and, Bool.and_false, Bool.false_and, not_true_eq_false, not_false_eq_true, List.length_cons, List.length_nil, at_0, at_1, at_2, at_3, h15]
    refine ⟨here, [d], rfl, by simp, ?_⟩
    (try simp only [s_asg, s_asgO, s_unp, s_par, s_app, s_ext, s_seti, s_ex, s_ite, s_ret, s_retN, s_brk, s_cnt, s_pas, s_nvr, s_frz, s_mov, s_bpop, s_bset, wpE, wpEs, getV, getB, getO, bnd_some, tst_bl, binD, addD, subD, mulD, int2, cmpD, ordD, biD, one, extD, atD, bindT, bindTs, parT, ownS, iterD, itemsOf, partD, absE, sliD, revD, isTy, isNon, permD, List.set_cons_zero, List.set_cons_succ, List.getD_cons_zero, List.getD_cons_succ, frzS, frz1, wipeS, List.modify_zero_cons, List.modify_succ_cons, Bool.true_eq_false, Bool.false_eq_true, if_true, if_false, ite_true, ite_false, reduceIte, List.replicate, Nat.add_zero, Nat.zero_add, if_pos, Nat.one_ne_zero, Nat.reduceEqDiff, reduceCtorEq, decide_eq_true_eq, eqD, eqDs, ty_beq, decide_true, decide_false, Bool.not_true, Bool.not_false, wps_nil, List.map_cons, List.map_nil, List.cons_append, List.nil_append, Bool.and_true, Bool.true_and, Bool.and_false, Bool.false_and, not_true_eq_false, not_false_eq_true, List.length_cons, List.length_nil, at_0, at_1, at_2, at_3, runC, runS]); rw [wps_cons]
    simp only [s_asg, s_asgO, s_unp, s_par, s_app, s_ext, s_seti, s_ex, s_ite, s_ret, s_retN, s_brk, s_cnt, s_pas, s_nvr, s_frz, s_mov, s_bpop, s_bset, wpE, wpEs, getV, getB, getO, bnd_some, tst_bl, binD, addD, subD, mulD, int2, cmpD, ordD, biD, one, extD, atD, bindT, bindTs, parT, ownS, iterD, itemsOf, partD, absE, sliD, revD, isTy, isNon, permD, List.set_cons_zero, List.set_cons_succ, List.getD_cons_zero, List.getD_cons_succ, frzS, frz1, wipeS, List.modify_zero_cons, List.modify_succ_cons, Bool.true_eq_false, Bool.false_eq_true, if_true, if_false, ite_true, ite_false, reduceIte, List.replicate, Nat.add_zero, Nat.zero_add, if_pos, Nat.one_ne_zero, Nat.reduceEqDiff, reduceCtorEq, decide_eq_true_eq, eqD, eqDs, ty_beq, decide_true, decide_false, Bool.not_true, Bool.not_false, wps_nil, List.map_cons, List.map_nil, List.cons_append, List.nil_append, Bool.and_true, Bool.true_and, Bool.and_false, Bool.false_and, not_true_eq_false, not_false_eq_true, List.length_cons, List.length_nil, at_0, at_1, at_2, at_3, h0, h1]
    refine ⟨here, d, rfl, here, d, rfl, here, d, rfl, here, d, rfl, ?_⟩
    (try simp only [s_asg, s_asgO, s_unp, s_par, s_app, s_ext, s_seti, s_ex, s_ite, s_ret, s_retN, s_brk, s_cnt, s_pas, s_nvr, s_frz, s_mov, s_bpop, s_bset, wpE, wpEs, getV, getB, getO, bnd_some, tst_bl, binD, addD, subD, mulD, int2, cmpD, ordD, biD, one, extD, atD, bindT, bindTs, parT, ownS, iterD, itemsOf, partD, absE, sliD, revD, isTy, isNon, permD, List.set_cons_zero, List.set_cons_succ, List.getD_cons_zero, List.getD_cons_succ, frzS, frz1, wipeS, List.modify_zero_cons, List.modify_succ_cons, Bool.true_eq_false, Bool.false_eq_true, if_true, if_false, ite_true, ite_false, reduceIte, List.replicate, Nat.add_zero, Nat.zero_add, if_pos, Nat.one_ne_zero, Nat.reduceEqDiff, reduceCtorEq, decide_eq_true_eq, eqD, eqDs, ty_beq, decide_true, decide_false, Bool.not_true, Bool.not_false, wps_nil, List.map_cons, List.map_nil, List.cons_append, List.nil_append, Bool.and_true, Bool.true_and, Bool.and_false, Bool.false_and, not_true_eq_false, not_false_eq_true, List.length_cons, List.length_nil, at_0, at_1, at_2, at_3]); rw [wps_cons]
    simp only [s_asg, s_asgO, s_unp, s_par, s_app, s_ext, s_seti, s_ex, s_ite, s_ret, s_retN, s_brk, s_cnt, s_pas, s_nvr, s_frz, s_mov, s_bpop, s_bset, wpE, wpEs, getV, getB, getO, bnd_some, tst_bl, binD, addD, subD, mulD, int2, cmpD, ordD, biD, one, extD, atD, bindT, bindTs, parT, ownS, iterD, itemsOf, partD, absE, sliD, revD, isTy, isNon, permD, List.set_cons_zero, List.set_cons_succ, List.getD_cons_zero, List.getD_cons_succ, frzS, frz1, wipeS, List.modify_zero_cons, List.modify_succ_cons, Bool.true_eq_false, Bool.false_eq_true, if_true, if_false, ite_true, ite_false, reduceIte, List.replicate, Nat.add_zero, Nat.zero_add, if_pos, Nat.one_ne_zero, Nat.reduceEqDiff, reduceCtorEq, decide_eq_true_eq, eqD, eqDs, ty_beq, decide_true, decide_false, Bool.not_true, Bool.not_false, wps_nil, List.map_cons, List.map_nil, List.cons_append, List.nil_append, Bool.and_true, Bool.true_and, Bool.and_false, Bool.false_and, not_true_eq_false, not_false_eq_true, List.length_cons, List.length_nil, at_0, at_1, at_2, at_3, h12]
    refine same_at rfl rfl ?_
    (try simp only [s_asg, s_asgO, s_unp, s_par, s_app, s_ext, s_seti, s_ex, s_ite, s_ret, s_retN, s_brk, s_cnt, s_pas, s_nvr, s_frz, s_mov, s_bpop, s_bset, wpE, wpEs, getV, getB, getO, bnd_some, tst_bl, binD, addD, subD, mulD, int2, cmpD, ordD, biD, one, extD, atD, bindT, bindTs, parT, ownS, iterD, itemsOf, partD, absE, sliD, revD, isTy, isNon, permD, List.set_cons_zero, List.set_cons_succ, List.getD_cons_zero, List.getD_cons_succ, frzS, frz1, wipeS, List.modify_zero_cons, List.modify_succ_cons, Bool.true_eq_false, Bool.false_eq_true, if_true, if_false, ite_true, ite_false, reduceIte, List.replicate, Nat.add_zero, Nat.zero_add, if_pos, Nat.one_ne_zero, Nat.reduceEqDiff, reduceCtorEq, decide_eq_true_eq, eqD, eqDs, ty_beq, decide_true, decide_false, Bool.not_true, Bool.not_false, wps_nil, List.map_cons, List.map_nil, List.cons_append, List.nil_append, Bool.and_true, Bool.true_and, Bool.and_false, Bool.false_and, not_true_eq_false, not_false_eq_true, List.length_cons, List.length_nil, at_0, at_1, at_2, at_3]); rw [wps_cons]
    simp only [s_asg, s_asgO, s_unp, s_par, s_app, s_ext, s_seti, s_ex, s_ite, s_ret, s_retN, s_brk, s_cnt, s_pas, s_nvr, s_frz, s_mov, s_bpop, s_bset, wpE, wpEs, getV, getB, getO, bnd_some, tst_bl, binD, addD, subD, mulD, int2, cmpD, ordD, biD, one, extD, atD, bindT, bindTs, parT, ownS, iterD, itemsOf, partD, absE, sliD, revD, isTy, isNon, permD, List.set_cons_zero, List.set_cons_succ, List.getD_cons_zero, List.getD_cons_succ, frzS, frz1, wipeS, List.modify_zero_cons, List.modify_succ_cons, Bool.true_eq_false, Bool.false_eq_true, if_true, if_false, ite_true, ite_false, reduceIte, List.replicate, Nat.add_zero, Nat.zero_add, if_pos, Nat.one_ne_zero, Nat.reduceEqDiff, reduceCtorEq, decide_eq_true_eq, eqD, eqDs, ty_beq, decide_true, decide_false, Bool.not_true, Bool.not_false, wps_nil, List.map_cons, List.map_nil, List.cons_append, List.nil_append, Bool.and_true, Bool.true_and, Bool.and_false, Bool.false_and, not_true_eq_false, not_false_eq_true, List.length_cons, List.length_nil, at_0, at_1, at_2, at_3]
    exact ⟨_, _, _, _, _, rfl⟩
  · rintro σ B4 ⟨here, s7, s8, s9, s10, rfl⟩
    simp only [s_asg, s_asgO, s_unp, s_par, s_app, s_ext, s_seti, s_ex, s_ite, s_ret, s_retN, s_brk, s_cnt, s_pas, s_nvr, s_frz, s_mov, s_bpop, s_bset, wpE, wpEs, getV, getB, getO, bnd_some, tst_bl, binD, addD, subD, mulD, int2, cmpD, ordD, biD, one, extD, atD, bindT, bindTs, parT, ownS, iterD, itemsOf, partD, absE, sliD, revD, isTy, isNon, permD, List.set_cons_zero, List.set_cons_succ, List.getD_cons_zero, List.getD_cons_succ, frzS, frz1, wipeS, List.modify_zero_cons, List.modify_succ_cons, Bool.true_eq_false, Bool.false_eq_true, if_true, if_false, ite_true, ite_false, reduceIte, List.replicate, Nat.add_zero, Nat.zero_add, if_pos, Nat.one_ne_zero, Nat.reduceEqDiff, reduceCtorEq, decide_eq_true_eq, eqD, eqDs, ty_beq, decide_true, decide_false, Bool.not_true, Bool.not_false, wps_cons, wps_nil, List.map_cons, List.map_nil, List.cons_append, List.nil_append, Bool.and_true, Bool.true_and, Bool.and_false, Bool.false_and, not_true_eq_false, not_false_eq_true, List.length_cons, List.length_nil, at_0, at_1, at_2, at_3]
    exact q _
theorem run_puts : ∀ (k : Nat) (s : Int), runS s (List.replicate k none) = s + k
  | 0, s => by simp [runS]
  | k + 1, s => by
    rw [List.replicate_succ]
    show runS (s + 1) (List.replicate k none) = _
    rw [run_puts k (s + 1)]
    omega
theorem puts_puts : ∀ k : Nat, puts (List.replicate k none) = k
  | 0 => rfl
  | k + 1 => by rw [List.replicate_succ, puts, puts_puts k]
theorem rep_none (k : Nat) : repD (k : Int) [D.non] = (List.replicate k none).map dd := by
  unfold repD
  rw [Int.toNat_natCast, List.map_replicate]
  induction k with
  | zero => rfl
  | succ k ih => rw [List.replicate_succ, List.replicate_succ, List.flatten_cons, ih]; rfl
theorem wp_law_is_beside_right (ds : List D) (B : Bag) (Q : D → Bag → Prop) (h : Γ 18 ds B Q) : wpFn (cut 18 Γ) sglaw_is_beside_right.N.length irlaw_is_beside_right ds B Q := by
  obtain ⟨rfl, q⟩ := h
  have G := cut_mono (m := 18) Γ_mono
  have hD : cut 18 Γ 10 = semDraw := rfl
  have h13 : cut 18 Γ 13 = S13 := rfl
  have h12 : cut 18 Γ 12 = semSame 4 := rfl
  have h2 : cut 18 Γ 2 = S2 := rfl
  unfold wpFn irlaw_is_beside_right
  rw [show sglaw_is_beside_right.N.length = 9 from rfl]
  (try dsimp only); rw [wps_cons]
  simp only [s_asg, s_asgO, s_unp, s_par, s_app, s_ext, s_seti, s_ex, s_ite, s_ret, s_retN, s_brk, s_cnt, s_pas, s_nvr, s_frz, s_mov, s_bpop, s_bset, wpE, wpEs, getV, getB, getO, bnd_some, tst_bl, binD, addD, subD, mulD, int2, cmpD, ordD, biD, one, extD, atD, bindT, bindTs, parT, ownS, iterD, itemsOf, partD, absE, sliD, revD, isTy, isNon, permD, List.set_cons_zero, List.set_cons_succ, List.getD_cons_zero, List.getD_cons_succ, frzS, frz1, wipeS, List.modify_zero_cons, List.modify_succ_cons, Bool.true_eq_false, Bool.false_eq_true, if_true, if_false, ite_true, ite_false, reduceIte, List.replicate, Nat.add_zero, Nat.zero_add, if_pos, Nat.one_ne_zero, Nat.reduceEqDiff, reduceCtorEq, decide_eq_true_eq, eqD, eqDs, ty_beq, decide_true, decide_false, Bool.not_true, Bool.not_false, wps_nil, List.map_cons, List.map_nil, List.cons_append, List.nil_append, Bool.and_true, Bool.true_and, Bool.and_false, Bool.false_and, not_true_eq_false, not_false_eq_true, List.length_cons, List.length_nil, at_0, at_1, at_2, at_3, hD]
  refine draw_at (by decide) (by decide) fun g0 B1 g1 g2 => draw_at (by decide) (by decide) fun n B2 n1 n2 => ?_
  obtain ⟨g, hg⟩ : ∃ g, 2 + g0 = g := ⟨_, rfl⟩
  rw [hg]
  (try simp only [s_asg, s_asgO, s_unp, s_par, s_app, s_ext, s_seti, s_ex, s_ite, s_ret, s_retN, s_brk, s_cnt, s_pas, s_nvr, s_frz, s_mov, s_bpop, s_bset, wpE, wpEs, getV, getB, getO, bnd_some, tst_bl, binD, addD, subD, mulD, int2, cmpD, ordD, biD, one, extD, atD, bindT, bindTs, parT, ownS, iterD, itemsOf, partD, absE, sliD, revD, isTy, isNon, permD, List.set_cons_zero, List.set_cons_succ, List.getD_cons_zero, List.getD_cons_succ, frzS, frz1, wipeS, List.modify_zero_cons, List.modify_succ_cons, Bool.true_eq_false, Bool.false_eq_true, if_true, if_false, ite_true, ite_false, reduceIte, List.replicate, Nat.add_zero, Nat.zero_add, if_pos, Nat.one_ne_zero, Nat.reduceEqDiff, reduceCtorEq, decide_eq_true_eq, eqD, eqDs, ty_beq, decide_true, decide_false, Bool.not_true, Bool.not_false, wps_nil, List.map_cons, List.map_nil, List.cons_append, List.nil_append, Bool.and_true, Bool.true_and, Bool.and_false, Bool.false_and, not_true_eq_false, not_false_eq_true, List.length_cons, List.length_nil, at_0, at_1, at_2, at_3]); rw [wps_cons]
  simp only [s_asg, s_asgO, s_unp, s_par, s_app, s_ext, s_seti, s_ex, s_ite, s_ret, s_retN, s_brk, s_cnt, s_pas, s_nvr, s_frz, s_mov, s_bpop, s_bset, wpE, wpEs, getV, getB, getO, bnd_some, tst_bl, binD, addD, subD, mulD, int2, cmpD, ordD, biD, one, extD, atD, bindT, bindTs, parT, ownS, iterD, itemsOf, partD, absE, sliD, revD, isTy, isNon, permD, List.set_cons_zero, List.set_cons_succ, List.getD_cons_zero, List.getD_cons_succ, frzS, frz1, wipeS, List.modify_zero_cons, List.modify_succ_cons, Bool.true_eq_false, Bool.false_eq_true, if_true, if_false, ite_true, ite_false, reduceIte, List.replicate, Nat.add_zero, Nat.zero_add, if_pos, Nat.one_ne_zero, Nat.reduceEqDiff, reduceCtorEq, decide_eq_true_eq, eqD, eqDs, ty_beq, decide_true, decide_false, Bool.not_true, Bool.not_false, wps_nil, List.map_cons, List.map_nil, List.cons_append, List.nil_append, Bool.and_true, Bool.true_and, Bool.and_false, Bool.false_and, not_true_eq_false, not_false_eq_true, List.length_cons, List.length_nil, at_0, at_1, at_2, at_3, h13]
  refine ⟨g, n, rfl, by omega, by omega, ?_⟩
  (try simp only [s_asg, s_asgO, s_unp, s_par, s_app, s_ext, s_seti, s_ex, s_ite, s_ret, s_retN, s_brk, s_cnt, s_pas, s_nvr, s_frz, s_mov, s_bpop, s_bset, wpE, wpEs, getV, getB, getO, bnd_some, tst_bl, binD, addD, subD, mulD, int2, cmpD, ordD, biD, one, extD, atD, bindT, bindTs, parT, ownS, iterD, itemsOf, partD, absE, sliD, revD, isTy, isNon, permD, List.set_cons_zero, List.set_cons_succ, List.getD_cons_zero, List.getD_cons_succ, frzS, frz1, wipeS, List.modify_zero_cons, List.modify_succ_cons, Bool.true_eq_false, Bool.false_eq_true, if_true, if_false, ite_true, ite_false, reduceIte, List.replicate, Nat.add_zero, Nat.zero_add, if_pos, Nat.one_ne_zero, Nat.reduceEqDiff, reduceCtorEq, decide_eq_true_eq, eqD, eqDs, ty_beq, decide_true, decide_false, Bool.not_true, Bool.not_false, wps_nil, List.map_cons, List.map_nil, List.cons_append, List.nil_append, Bool.and_true, Bool.true_and, Bool.and_false, Bool.false_and, not_true_eq_false, not_false_eq_true, List.length_cons, List.length_nil, at_0, at_1, at_2, at_3]); rw [wps_cons]
  simp only [s_asg, s_asgO, s_unp, s_par, s_app, s_ext, s_seti, s_ex, s_ite, s_ret, s_retN, s_brk, s_cnt, s_pas, s_nvr, s_frz, s_mov, s_bpop, s_bset, wpE, wpEs, getV, getB, getO, bnd_some, tst_bl, binD, addD, subD, mulD, int2, cmpD, ordD, biD, one, extD, atD, bindT, bindTs, parT, ownS, iterD, itemsOf, partD, absE, sliD, revD, isTy, isNon, permD, List.set_cons_zero, List.set_cons_succ, List.getD_cons_zero, List.getD_cons_succ, frzS, frz1, wipeS, List.modify_zero_cons, List.modify_succ_cons, Bool.true_eq_false, Bool.false_eq_true, if_true, if_false, ite_true, ite_false, reduceIte, List.replicate, Nat.add_zero, Nat.zero_add, if_pos, Nat.one_ne_zero, Nat.reduceEqDiff, reduceCtorEq, decide_eq_true_eq, eqD, eqDs, ty_beq, decide_true, decide_false, Bool.not_true, Bool.not_false, wps_nil, List.map_cons, List.map_nil, List.cons_append, List.nil_append, Bool.and_true, Bool.true_and, Bool.and_false, Bool.false_and, not_true_eq_false, not_false_eq_true, List.length_cons, List.length_nil, at_0, at_1, at_2, at_3]
  rw [wps_cons]
  refine wp_for G ?_
  simp only [s_asg, s_asgO, s_unp, s_par, s_app, s_ext, s_seti, s_ex, s_ite, s_ret, s_retN, s_brk, s_cnt, s_pas, s_nvr, s_frz, s_mov, s_bpop, s_bset, wpE, wpEs, getV, getB, getO, bnd_some, tst_bl, binD, addD, subD, mulD, int2, cmpD, ordD, biD, one, extD, atD, bindT, bindTs, parT, ownS, iterD, itemsOf, partD, absE, sliD, revD, isTy, isNon, permD, List.set_cons_zero, List.set_cons_succ, List.getD_cons_zero, List.getD_cons_succ, frzS, frz1, wipeS, List.modify_zero_cons, List.modify_succ_cons, Bool.true_eq_false, Bool.false_eq_true, if_true, if_false, ite_true, ite_false, reduceIte, List.replicate, Nat.add_zero, Nat.zero_add, if_pos, Nat.one_ne_zero, Nat.reduceEqDiff, reduceCtorEq, decide_eq_true_eq, eqD, eqDs, ty_beq, decide_true, decide_false, Bool.not_true, Bool.not_false, wps_nil, List.map_cons, List.map_nil, List.cons_append, List.nil_append, Bool.and_true, Bool.true_and, Bool.and_false, Bool.false_and, not_true_eq_false, not_false_eq_true, List.length_cons, List.length_nil, at_0, at_1, at_2, at_3]
  refine ⟨fun i σ _ => ∃ (l : List (Option Int)) (s6 : Sl), l.length ≤ 200 ∧ runS 0 l = 0 ∧ σ = [.va .bag, .va (.int g), .va (.int n), .va (.lst ((over g n 25).map D.int)), .va (.int (room g n 25)), .ow (l.map dd), s6, .no, .no], ⟨[], .no, by decide, rfl, rfl⟩, ?_, ?_⟩
  · rintro i x σ B4 hx ⟨l, s6, hl, hr, rfl⟩
    obtain ⟨m, hm, rfl⟩ := List.mem_map.mp (List.mem_of_getElem? hx)
    have hm1 := over_pos (by omega) _ _ hm
    obtain ⟨k, rfl⟩ := Int.eq_ofNat_of_zero_le (show 0 ≤ m by omega)
    (try simp only [s_asg, s_asgO, s_unp, s_par, s_app, s_ext, s_seti, s_ex, s_ite, s_ret, s_retN, s_brk, s_cnt, s_pas, s_nvr, s_frz, s_mov, s_bpop, s_bset, wpE, wpEs, getV, getB, getO, bnd_some, tst_bl, binD, addD, subD, mulD, int2, cmpD, ordD, biD, one, extD, atD, bindT, bindTs, parT, ownS, iterD, itemsOf, partD, absE, sliD, revD, isTy, isNon, permD, List.set_cons_zero, List.set_cons_succ, List.getD_cons_zero, List.getD_cons_succ, frzS, frz1, wipeS, List.modify_zero_cons, List.modify_succ_cons, Bool.true_eq_false, Bool.false_eq_true, if_true, if_false, ite_true, ite_false, reduceIte, List.replicate, Nat.add_zero, Nat.zero_add, if_pos, Nat.one_ne_zero, Nat.reduceEqDiff, reduceCtorEq, decide_eq_true_eq, eqD, eqDs, ty_beq, decide_true, decide_false, Bool.not_true, Bool.not_false, wps_nil, List.map_cons, List.map_nil, List.cons_append, List.nil_append, Bool.and_true, Bool.true_and, Bool.and_false, Bool.false_and, not_true_eq_false, not_false_eq_true, List.length_cons, List.length_nil, at_0, at_1, at_2, at_3])
    rw [wps_cons]
    simp only [s_asg, s_asgO, s_unp, s_par, s_app, s_ext, s_seti, s_ex, s_ite, s_ret, s_retN, s_brk, s_cnt, s_pas, s_nvr, s_frz, s_mov, s_bpop, s_bset, wpE, wpEs, getV, getB, getO, bnd_some, tst_bl, binD, addD, subD, mulD, int2, cmpD, ordD, biD, one, extD, atD, bindT, bindTs, parT, ownS, iterD, itemsOf, partD, absE, sliD, revD, isTy, isNon, permD, List.set_cons_zero, List.set_cons_succ, List.getD_cons_zero, List.getD_cons_succ, frzS, frz1, wipeS, List.modify_zero_cons, List.modify_succ_cons, Bool.true_eq_false, Bool.false_eq_true, if_true, if_false, ite_true, ite_false, reduceIte, List.replicate, Nat.add_zero, Nat.zero_add, if_pos, Nat.one_ne_zero, Nat.reduceEqDiff, reduceCtorEq, decide_eq_true_eq, eqD, eqDs, ty_beq, decide_true, decide_false, Bool.not_true, Bool.not_false, wps_nil, List.map_cons, List.map_nil, List.cons_append, List.nil_append, Bool.and_true, Bool.true_and, Bool.and_false, Bool.false_and, not_true_eq_false, not_false_eq_true, List.length_cons, List.length_nil, at_0, at_1, at_2, at_3]
    refine iteI (fun e => iteI (fun e2 => ?_) fun _ => ⟨l, _, hl, hr, rfl⟩) fun _ => ⟨l, _, hl, hr, rfl⟩
    rw [List.length_map] at e2
    refine ⟨by omega, by omega, by simp only [List.length_cons, List.length_nil, Int.toNat_natCast]; unfold LIM; omega, ?_⟩
    rw [rep_none]
    refine ⟨by rw [List.length_map, List.length_replicate]; simp only [List.length_cons, List.length_nil]; unfold LIM; omega, by rw [List.length_map, List.length_append, List.length_map, List.length_replicate]; simp only [List.length_cons, List.length_nil]; unfold LIM; omega, ?_⟩
    refine ⟨l ++ (List.replicate k none ++ [some (k : Int)]), .va (.int k), ?_, ?_, ?_⟩
    · rw [List.length_append, List.length_append, List.length_replicate]
      simp only [List.length_cons, List.length_nil]
      omega
    · rw [runS_append, runS_append, hr, run_puts]
      show after (0 + (k : Int)) (some (k : Int)) = 0
      simp only [after]
      split <;> omega
    · rw [List.map_append, List.map_append]
      rfl
  · rintro σ B4 ⟨l, s6, hl, hr, rfl⟩
    (try simp only [s_asg, s_asgO, s_unp, s_par, s_app, s_ext, s_seti, s_ex, s_ite, s_ret, s_retN, s_brk, s_cnt, s_pas, s_nvr, s_frz, s_mov, s_bpop, s_bset, wpE, wpEs, getV, getB, getO, bnd_some, tst_bl, binD, addD, subD, mulD, int2, cmpD, ordD, biD, one, extD, atD, bindT, bindTs, parT, ownS, iterD, itemsOf, partD, absE, sliD, revD, isTy, isNon, permD, List.set_cons_zero, List.set_cons_succ, List.getD_cons_zero, List.getD_cons_succ, frzS, frz1, wipeS, List.modify_zero_cons, List.modify_succ_cons, Bool.true_eq_false, Bool.false_eq_true, if_true, if_false, ite_true, ite_false, reduceIte, List.replicate, Nat.add_zero, Nat.zero_add, if_pos, Nat.one_ne_zero, Nat.reduceEqDiff, reduceCtorEq, decide_eq_true_eq, eqD, eqDs, ty_beq, decide_true, decide_false, Bool.not_true, Bool.not_false, wps_nil, List.map_cons, List.map_nil, List.cons_append, List.nil_append, Bool.and_true, Bool.true_and, Bool.and_false, Bool.false_and, not_true_eq_false, not_false_eq_true, List.length_cons, List.length_nil, at_0, at_1, at_2, at_3]); rw [wps_cons]
    (try simp only [s_asg, s_asgO, s_unp, s_par, s_app, s_ext, s_seti, s_ex, s_ite, s_ret, s_retN, s_brk, s_cnt, s_pas, s_nvr, s_frz, s_mov, s_bpop, s_bset, wpE, wpEs, getV, getB, getO, bnd_some, tst_bl, binD, addD, subD, mulD, int2, cmpD, ordD, biD, one, extD, atD, bindT, bindTs, parT, ownS, iterD, itemsOf, partD, absE, sliD, revD, isTy, isNon, permD, List.set_cons_zero, List.set_cons_succ, List.getD_cons_zero, List.getD_cons_succ, frzS, frz1, wipeS, List.modify_zero_cons, List.modify_succ_cons, Bool.true_eq_false, Bool.false_eq_true, if_true, if_false, ite_true, ite_false, reduceIte, List.replicate, Nat.add_zero, Nat.zero_add, if_pos, Nat.one_ne_zero, Nat.reduceEqDiff, reduceCtorEq, decide_eq_true_eq, eqD, eqDs, ty_beq, decide_true, decide_false, Bool.not_true, Bool.not_false, wps_nil, List.map_cons, List.map_nil, List.cons_append, List.nil_append, Bool.and_true, Bool.true_and, Bool.and_false, Bool.false_and, not_true_eq_false, not_false_eq_true, List.length_cons, List.length_nil, at_0, at_1, at_2, at_3])
    refine lcL_map (g := fun x => if isNon x = true then [x] else []) (fun x hx B K hK => ?_) ?_
    · cases x <;> exact hK
    rw [none_len]
    (try simp only [s_asg, s_asgO, s_unp, s_par, s_app, s_ext, s_seti, s_ex, s_ite, s_ret, s_retN, s_brk, s_cnt, s_pas, s_nvr, s_frz, s_mov, s_bpop, s_bset, wpE, wpEs, getV, getB, getO, bnd_some, tst_bl, binD, addD, subD, mulD, int2, cmpD, ordD, biD, one, extD, atD, bindT, bindTs, parT, ownS, iterD, itemsOf, partD, absE, sliD, revD, isTy, isNon, permD, List.set_cons_zero, List.set_cons_succ, List.getD_cons_zero, List.getD_cons_succ, frzS, frz1, wipeS, List.modify_zero_cons, List.modify_succ_cons, Bool.true_eq_false, Bool.false_eq_true, if_true, if_false, ite_true, ite_false, reduceIte, List.replicate, Nat.add_zero, Nat.zero_add, if_pos, Nat.one_ne_zero, Nat.reduceEqDiff, reduceCtorEq, decide_eq_true_eq, eqD, eqDs, ty_beq, decide_true, decide_false, Bool.not_true, Bool.not_false, wps_nil, List.map_cons, List.map_nil, List.cons_append, List.nil_append, Bool.and_true, Bool.true_and, Bool.and_false, Bool.false_and, not_true_eq_false, not_false_eq_true, List.length_cons, List.length_nil, at_0, at_1, at_2, at_3]); rw [wps_cons]
    simp only [s_asg, s_asgO, s_unp, s_par, s_app, s_ext, s_seti, s_ex, s_ite, s_ret, s_retN, s_brk, s_cnt, s_pas, s_nvr, s_frz, s_mov, s_bpop, s_bset, wpE, wpEs, getV, getB, getO, bnd_some, tst_bl, binD, addD, subD, mulD, int2, cmpD, ordD, biD, one, extD, atD, bindT, bindTs, parT, ownS, iterD, itemsOf, partD, absE, sliD, revD, isTy, isNon, permD, List.set_cons_zero, List.set_cons_succ, List.getD_cons_zero, List.getD_cons_succ, frzS, frz1, wipeS, List.modify_zero_cons, List.modify_succ_cons, Bool.true_eq_false, Bool.false_eq_true, if_true, if_false, ite_true, ite_false, reduceIte, List.replicate, Nat.add_zero, Nat.zero_add, if_pos, Nat.one_ne_zero, Nat.reduceEqDiff, reduceCtorEq, decide_eq_true_eq, eqD, eqDs, ty_beq, decide_true, decide_false, Bool.not_true, Bool.not_false, wps_nil, List.map_cons, List.map_nil, List.cons_append, List.nil_append, Bool.and_true, Bool.true_and, Bool.and_false, Bool.false_and, not_true_eq_false, not_false_eq_true, List.length_cons, List.length_nil, at_0, at_1, at_2, at_3, h2]
    refine ⟨0, l, rfl, by omega, _, rfl, mulOk_l (by decide), ?_⟩
    (try simp only [s_asg, s_asgO, s_unp, s_par, s_app, s_ext, s_seti, s_ex, s_ite, s_ret, s_retN, s_brk, s_cnt, s_pas, s_nvr, s_frz, s_mov, s_bpop, s_bset, wpE, wpEs, getV, getB, getO, bnd_some, tst_bl, binD, addD, subD, mulD, int2, cmpD, ordD, biD, one, extD, atD, bindT, bindTs, parT, ownS, iterD, itemsOf, partD, absE, sliD, revD, isTy, isNon, permD, List.set_cons_zero, List.set_cons_succ, List.getD_cons_zero, List.getD_cons_succ, frzS, frz1, wipeS, List.modify_zero_cons, List.modify_succ_cons, Bool.true_eq_false, Bool.false_eq_true, if_true, if_false, ite_true, ite_false, reduceIte, List.replicate, Nat.add_zero, Nat.zero_add, if_pos, Nat.one_ne_zero, Nat.reduceEqDiff, reduceCtorEq, decide_eq_true_eq, eqD, eqDs, ty_beq, decide_true, decide_false, Bool.not_true, Bool.not_false, wps_nil, List.map_cons, List.map_nil, List.cons_append, List.nil_append, Bool.and_true, Bool.true_and, Bool.and_false, Bool.false_and, not_true_eq_false, not_false_eq_true, List.length_cons, List.length_nil, at_0, at_1, at_2, at_3])
    refine lcL_map (g := fun x => if isNon x = true then [] else [x]) (fun x hx B K hK => ?_) ?_
    · cases x <;> exact hK
    rw [some_len, h12]
    refine same_at ?_ rfl (q _)
    have := run_sum 0 l
    have := puts_le l
    congr 1
    omega
/-! the dearest rows -/
def pr (p : Int × Int) : List Int := [p.1, p.2]
def nexts (rows : List (List Int)) : List (List Int) := rows.map (fun r => [r.getD 0 0 + 1, r.getD 1 0 + 1]) ++ rows.map (fun r => [0, r.getD 1 0 + 1 + r.getD 0 0])
/-- where a row may stand behind t deeds -/
def Row (t : Nat) (r : List Int) : Prop := ∃ s c : Int, r = [s, c] ∧ 0 ≤ s ∧ ((c = t ∧ s ≤ t) ∨ ((t : Int) < c ∧ s + (c - t) ≤ t - 1))
theorem row_next {t : Nat} {rows : List (List Int)} (h : ∀ r ∈ rows, Row t r) : ∀ r ∈ nexts rows, Row (t + 1) r := fun r hr => by
  rcases List.mem_append.mp hr with h1 | h1
  · obtain ⟨q, hq, rfl⟩ := List.mem_map.mp h1
    obtain ⟨s, c, rfl, h0, h2⟩ := h q hq
    refine ⟨s + 1, c + 1, rfl, by omega, ?_⟩
    rcases h2 with h2 | h2
    · exact .inl ⟨by omega, by omega⟩
    · exact .inr ⟨by omega, by omega⟩
  · obtain ⟨q, hq, rfl⟩ := List.mem_map.mp h1
    obtain ⟨s, c, rfl, h0, h2⟩ := h q hq
    refine ⟨0, c + 1 + s, rfl, by omega, ?_⟩
    rcases h2 with h2 | h2
    · by_cases hs : s = 0
      · exact .inl ⟨by omega, by omega⟩
      · exact .inr ⟨by omega, by omega⟩
    · exact .inr ⟨by omega, by omega⟩
/-- all places -/
def place (t : Nat) : List (List Int) := (List.range (t + 1)).map (fun (s : Nat) => [(s : Int), (t : Int)]) ++ (List.range t).flatMap fun (s : Nat) => (List.range (t - 1 - s)).map fun (j : Nat) => [(s : Int), (t : Int) + (j : Int) + 1]
theorem row_place {t : Nat} {r : List Int} (h : Row t r) : r ∈ place t := by
  obtain ⟨s, c, rfl, h0, h1⟩ := h
  obtain ⟨s, rfl⟩ := Int.eq_ofNat_of_zero_le h0
  rcases h1 with ⟨rfl, h1⟩ | ⟨h1, h2⟩
  · exact List.mem_append_left _ (List.mem_map.mpr ⟨s, List.mem_range.mpr (by omega), rfl⟩)
  · refine List.mem_append_right _ (List.mem_flatMap.mpr ⟨s, List.mem_range.mpr (by omega), List.mem_map.mpr ⟨(c - t - 1).toNat, List.mem_range.mpr (by omega), ?_⟩⟩)
    have : (t : Int) + ((c - t - 1).toNat : Int) + 1 = c := by omega
    rw [this]
theorem nodup_le {α : Type} [DecidableEq α] : ∀ {a b : List α}, a.Nodup → (∀ x ∈ a, x ∈ b) → a.length ≤ b.length
  | [], _, _, _ => Nat.zero_le _
  | x :: a, b, hn, h => by
    have hx := h x (List.mem_cons_self ..)
    obtain ⟨n1, n2⟩ := List.nodup_cons.mp hn
    have := nodup_le (a := a) (b := b.erase x) n2 fun y hy => (List.mem_erase_of_ne fun e => n1 (by rw [← e]; exact hy)).mpr (h y (List.mem_cons_of_mem _ hy))
    rw [List.length_erase_of_mem hx] at this
    have : 0 < b.length := List.length_pos_of_mem hx
    rw [List.length_cons]
    omega
theorem place_len : ∀ t : Nat, t ≤ 7 → (place t).length ≤ 31 := by decide
/-- what holds of the rows behind t deeds -/
structure RI (t : Nat) (rows : List (List Int)) : Prop where
  nd : rows.Nodup
  in_ : ∀ r ∈ rows, Row t r
  top : [(t : Int), (t : Int)] ∈ rows
  dear : t ≠ 0 → [0, 2 * (t : Int) - 1] ∈ rows
theorem RI.few {t : Nat} {rows : List (List Int)} (h : RI t rows) (ht : t ≤ 7) : rows.length ≤ 31 := Nat.le_trans (nodup_le h.nd fun r hr => row_place (h.in_ r hr)) (place_len t ht)
theorem RI.next {t : Nat} {rows qs : List (List Int)} (h : RI t rows) (hn : qs.Nodup) (hm : ∀ q, q ∈ qs ↔ q ∈ nexts rows) : RI (t + 1) qs where
  nd := hn
  in_ := fun r hr => row_next h.in_ r ((hm r).mp hr)
  top := (hm _).mpr (List.mem_append_left _ (List.mem_map.mpr ⟨_, h.top, by simp⟩))
  dear := fun _ => (hm _).mpr (List.mem_append_right _ (List.mem_map.mpr ⟨_, h.top, by
    have : (t : Int) + 1 + t = 2 * ((t + 1 : Nat) : Int) - 1 := by omega
    simp [this]⟩))
theorem maxI_eq {ns : List Int} {m : Int} (h1 : m ∈ ns) (h2 : ∀ x ∈ ns, x ≤ m) : maxI ns = m := by
  have hn : ns ≠ [] := fun e => by rw [e] at h1; cases h1
  exact Int.le_antisymm (h2 _ (maxI_mem hn)) (maxI_ge _ h1)
theorem RI.best {t : Nat} {rows : List (List Int)} (h : RI (t + 1) rows) : maxI (rows.map fun r => r.getD 1 0) = 2 * ((t + 1 : Nat) : Int) - 1 := by
  refine maxI_eq (List.mem_map.mpr ⟨_, h.dear (Nat.succ_ne_zero t), rfl⟩) fun x hx => ?_
  obtain ⟨r, hr, rfl⟩ := List.mem_map.mp hx
  obtain ⟨s, c, rfl, h0, h1⟩ := h.in_ r hr
  show c ≤ _
  omega
theorem wp_law_is_most_right (ds : List D) (B : Bag) (Q : D → Bag → Prop) (h : Γ 19 ds B Q) : wpFn (cut 19 Γ) sglaw_is_most_right.N.length irlaw_is_most_right ds B Q := by
  obtain ⟨rfl, q⟩ := h
  have G := cut_mono (m := 19) Γ_mono
  have hD : cut 19 Γ 10 = semDraw := rfl
  have hP : cut 19 Γ 11 = semPick := rfl
  have h12 : cut 19 Γ 12 = semSame 4 := rfl
  have h2 : cut 19 Γ 2 = S2 := rfl
  have h3 : cut 19 Γ 3 = S3 := rfl
  unfold wpFn irlaw_is_most_right
  rw [show sglaw_is_most_right.N.length = 9 from rfl]
  (try dsimp only); rw [wps_cons]
  simp only [s_asg, s_asgO, s_unp, s_par, s_app, s_ext, s_seti, s_ex, s_ite, s_ret, s_retN, s_brk, s_cnt, s_pas, s_nvr, s_frz, s_mov, s_bpop, s_bset, wpE, wpEs, getV, getB, getO, bnd_some, tst_bl, binD, addD, subD, mulD, int2, cmpD, ordD, biD, one, extD, atD, bindT, bindTs, parT, ownS, iterD, itemsOf, partD, absE, sliD, revD, isTy, isNon, permD, List.set_cons_zero, List.set_cons_succ, List.getD_cons_zero, List.getD_cons_succ, frzS, frz1, wipeS, List.modify_zero_cons, List.modify_succ_cons, Bool.true_eq_false, Bool.false_eq_true, if_true, if_false, ite_true, ite_false, reduceIte, List.replicate, Nat.add_zero, Nat.zero_add, if_pos, Nat.one_ne_zero, Nat.reduceEqDiff, reduceCtorEq, decide_eq_true_eq, eqD, eqDs, ty_beq, decide_true, decide_false, Bool.not_true, Bool.not_false, wps_nil, List.map_cons, List.map_nil, List.cons_append, List.nil_append, Bool.and_true, Bool.true_and, Bool.and_false, Bool.false_and, not_true_eq_false, not_false_eq_true, List.length_cons, List.length_nil, at_0, at_1, at_2, at_3, hD]
  refine draw_at (by decide) (by decide) fun n B1 n1 n2 => ?_
  (try simp only [s_asg, s_asgO, s_unp, s_par, s_app, s_ext, s_seti, s_ex, s_ite, s_ret, s_retN, s_brk, s_cnt, s_pas, s_nvr, s_frz, s_mov, s_bpop, s_bset, wpE, wpEs, getV, getB, getO, bnd_some, tst_bl, binD, addD, subD, mulD, int2, cmpD, ordD, biD, one, extD, atD, bindT, bindTs, parT, ownS, iterD, itemsOf, partD, absE, sliD, revD, isTy, isNon, permD, List.set_cons_zero, List.set_cons_succ, List.getD_cons_zero, List.getD_cons_succ, frzS, frz1, wipeS, List.modify_zero_cons, List.modify_succ_cons, Bool.true_eq_false, Bool.false_eq_true, if_true, if_false, ite_true, ite_false, reduceIte, List.replicate, Nat.add_zero, Nat.zero_add, if_pos, Nat.one_ne_zero, Nat.reduceEqDiff, reduceCtorEq, decide_eq_true_eq, eqD, eqDs, ty_beq, decide_true, decide_false, Bool.not_true, Bool.not_false, wps_nil, List.map_cons, List.map_nil, List.cons_append, List.nil_append, Bool.and_true, Bool.true_and, Bool.and_false, Bool.false_and, not_true_eq_false, not_false_eq_true, List.length_cons, List.length_nil, at_0, at_1, at_2, at_3]); rw [wps_cons]
  simp only [s_asg, s_asgO, s_unp, s_par, s_app, s_ext, s_seti, s_ex, s_ite, s_ret, s_retN, s_brk, s_cnt, s_pas, s_nvr, s_frz, s_mov, s_bpop, s_bset, wpE, wpEs, getV, getB, getO, bnd_some, tst_bl, binD, addD, subD, mulD, int2, cmpD, ordD, biD, one, extD, atD, bindT, bindTs, parT, ownS, iterD, itemsOf, partD, absE, sliD, revD, isTy, isNon, permD, List.set_cons_zero, List.set_cons_succ, List.getD_cons_zero, List.getD_cons_succ, frzS, frz1, wipeS, List.modify_zero_cons, List.modify_succ_cons, Bool.true_eq_false, Bool.false_eq_true, if_true, if_false, ite_true, ite_false, reduceIte, List.replicate, Nat.add_zero, Nat.zero_add, if_pos, Nat.one_ne_zero, Nat.reduceEqDiff, reduceCtorEq, decide_eq_true_eq, eqD, eqDs, ty_beq, decide_true, decide_false, Bool.not_true, Bool.not_false, wps_nil, List.map_cons, List.map_nil, List.cons_append, List.nil_append, Bool.and_true, Bool.true_and, Bool.and_false, Bool.false_and, not_true_eq_false, not_false_eq_true, List.length_cons, List.length_nil, at_0, at_1, at_2, at_3]
  rw [wps_cons]
  refine wp_for G ?_
  simp only [s_asg, s_asgO, s_unp, s_par, s_app, s_ext, s_seti, s_ex, s_ite, s_ret, s_retN, s_brk, s_cnt, s_pas, s_nvr, s_frz, s_mov, s_bpop, s_bset, wpE, wpEs, getV, getB, getO, bnd_some, tst_bl, binD, addD, subD, mulD, int2, cmpD, ordD, biD, one, extD, atD, bindT, bindTs, parT, ownS, iterD, itemsOf, partD, absE, sliD, revD, isTy, isNon, permD, List.set_cons_zero, List.set_cons_succ, List.getD_cons_zero, List.getD_cons_succ, frzS, frz1, wipeS, List.modify_zero_cons, List.modify_succ_cons, Bool.true_eq_false, Bool.false_eq_true, if_true, if_false, ite_true, ite_false, reduceIte, List.replicate, Nat.add_zero, Nat.zero_add, if_pos, Nat.one_ne_zero, Nat.reduceEqDiff, reduceCtorEq, decide_eq_true_eq, eqD, eqDs, ty_beq, decide_true, decide_false, Bool.not_true, Bool.not_false, wps_nil, List.map_cons, List.map_nil, List.cons_append, List.nil_append, Bool.and_true, Bool.true_and, Bool.and_false, Bool.false_and, not_true_eq_false, not_false_eq_true, List.length_cons, List.length_nil, at_0, at_1, at_2, at_3]
  refine ⟨⟨by omega, by omega⟩, fun i σ _ => ∃ (rows : List (List Int)) (s4 : Sl), RI i rows ∧ σ = [.va .bag, .va (.int n), .va (.int (if i = 0 then 0 else 2 * (i : Int) - 1)), .va (.lst (rows.map fun p => D.tup (p.map D.int))), s4, .no, .no, .no, .no],
    ⟨[[0, 0]], .no, ⟨by simp, fun r hr => ⟨0, 0, by simpa using hr, by decide, .inl ⟨rfl, by decide⟩⟩, by simp, fun h => absurd rfl h⟩, rfl⟩, ?_, ?_⟩
  · rintro i x σ B4 hx ⟨rows, s4, hR, rfl⟩
    have hi : i ≤ 7 := by
      have := (List.getElem?_eq_some_iff.mp hx).1
      rw [rngD_len] at this
      omega
    (try simp only [s_asg, s_asgO, s_unp, s_par, s_app, s_ext, s_seti, s_ex, s_ite, s_ret, s_retN, s_brk, s_cnt, s_pas, s_nvr, s_frz, s_mov, s_bpop, s_bset, wpE, wpEs, getV, getB, getO, bnd_some, tst_bl, binD, addD, subD, mulD, int2, cmpD, ordD, biD, one, extD, atD, bindT, bindTs, parT, ownS, iterD, itemsOf, partD, absE, sliD, revD, isTy, isNon, permD, List.set_cons_zero, List.set_cons_succ, List.getD_cons_zero, List.getD_cons_succ, frzS, frz1, wipeS, List.modify_zero_cons, List.modify_succ_cons, Bool.true_eq_false, Bool.false_eq_true, if_true, if_false, ite_true, ite_false, reduceIte, List.replicate, Nat.add_zero, Nat.zero_add, if_pos, Nat.one_ne_zero, Nat.reduceEqDiff, reduceCtorEq, decide_eq_true_eq, eqD, eqDs, ty_beq, decide_true, decide_false, Bool.not_true, Bool.not_false, wps_nil, List.map_cons, List.map_nil, List.cons_append, List.nil_append, Bool.and_true, Bool.true_and, Bool.and_false, Bool.false_and, not_true_eq_false, not_false_eq_true, List.length_cons, List.length_nil, at_0, at_1, at_2, at_3])
    rw [wps_cons]
    simp only [s_asg, s_asgO, s_unp, s_par, s_app, s_ext, s_seti, s_ex, s_ite, s_ret, s_retN, s_brk, s_cnt, s_pas, s_nvr, s_frz, s_mov, s_bpop, s_bset, wpE, wpEs, getV, getB, getO, bnd_some, tst_bl, binD, addD, subD, mulD, int2, cmpD, ordD, biD, one, extD, atD, bindT, bindTs, parT, ownS, iterD, itemsOf, partD, absE, sliD, revD, isTy, isNon, permD, List.set_cons_zero, List.set_cons_succ, List.getD_cons_zero, List.getD_cons_succ, frzS, frz1, wipeS, List.modify_zero_cons, List.modify_succ_cons, Bool.true_eq_false, Bool.false_eq_true, if_true, if_false, ite_true, ite_false, reduceIte, List.replicate, Nat.add_zero, Nat.zero_add, if_pos, Nat.one_ne_zero, Nat.reduceEqDiff, reduceCtorEq, decide_eq_true_eq, eqD, eqDs, ty_beq, decide_true, decide_false, Bool.not_true, Bool.not_false, wps_nil, List.map_cons, List.map_nil, List.cons_append, List.nil_append, Bool.and_true, Bool.true_and, Bool.and_false, Bool.false_and, not_true_eq_false, not_false_eq_true, List.length_cons, List.length_nil, at_0, at_1, at_2, at_3]
    have row2 : ∀ r ∈ rows, ∃ s c : Int, r = [s, c] := fun r hr => by
      obtain ⟨s, c, e, _⟩ := hR.in_ r hr
      exact ⟨s, c, e⟩
    refine lcL_one (H := fun r : List Int => D.tup [.int (r.getD 0 0 + 1), .int (r.getD 1 0 + 1)]) (fun r hr B K hK => ?_) ?_
    · obtain ⟨s, c, rfl⟩ := row2 r hr
      simpa only [s_asg, s_asgO, s_unp, s_par, s_app, s_ext, s_seti, s_ex, s_ite, s_ret, s_retN, s_brk, s_cnt, s_pas, s_nvr, s_frz, s_mov, s_bpop, s_bset, wpE, wpEs, getV, getB, getO, bnd_some, tst_bl, binD, addD, subD, mulD, int2, cmpD, ordD, biD, one, extD, atD, bindT, bindTs, parT, ownS, iterD, itemsOf, partD, absE, sliD, revD, isTy, isNon, permD, List.set_cons_zero, List.set_cons_succ, List.getD_cons_zero, List.getD_cons_succ, frzS, frz1, wipeS, List.modify_zero_cons, List.modify_succ_cons, Bool.true_eq_false, Bool.false_eq_true, if_true, if_false, ite_true, ite_false, reduceIte, List.replicate, Nat.add_zero, Nat.zero_add, if_pos, Nat.one_ne_zero, Nat.reduceEqDiff, reduceCtorEq, decide_eq_true_eq, eqD, eqDs, ty_beq, decide_true, decide_false, Bool.not_true, Bool.not_false, wps_nil, List.map_cons, List.map_nil, List.cons_append, List.nil_append, Bool.and_true, Bool.true_and, Bool.and_false, Bool.false_and, not_true_eq_false, not_false_eq_true, List.length_cons, List.length_nil, at_0, at_1, at_2, at_3] using hK
    (try simp only [s_asg, s_asgO, s_unp, s_par, s_app, s_ext, s_seti, s_ex, s_ite, s_ret, s_retN, s_brk, s_cnt, s_pas, s_nvr, s_frz, s_mov, s_bpop, s_bset, wpE, wpEs, getV, getB, getO, bnd_some, tst_bl, binD, addD, subD, mulD, int2, cmpD, ordD, biD, one, extD, atD, bindT, bindTs, parT, ownS, iterD, itemsOf, partD, absE, sliD, revD, isTy, isNon, permD, List.set_cons_zero, List.set_cons_succ, List.getD_cons_zero, List.getD_cons_succ, frzS, frz1, wipeS, List.modify_zero_cons, List.modify_succ_cons, Bool.true_eq_false, Bool.false_eq_true, if_true, if_false, ite_true, ite_false, reduceIte, List.replicate, Nat.add_zero, Nat.zero_add, if_pos, Nat.one_ne_zero, Nat.reduceEqDiff, reduceCtorEq, decide_eq_true_eq, eqD, eqDs, ty_beq, decide_true, decide_false, Bool.not_true, Bool.not_false, wps_nil, List.map_cons, List.map_nil, List.cons_append, List.nil_append, Bool.and_true, Bool.true_and, Bool.and_false, Bool.false_and, not_true_eq_false, not_false_eq_true, List.length_cons, List.length_nil, at_0, at_1, at_2, at_3])
    refine lcL_one (H := fun r : List Int => D.tup [.int 0, .int (r.getD 1 0 + 1 + r.getD 0 0)]) (fun r hr B K hK => ?_) ?_
    · obtain ⟨s, c, rfl⟩ := row2 r hr
      simpa only [s_asg, s_asgO, s_unp, s_par, s_app, s_ext, s_seti, s_ex, s_ite, s_ret, s_retN, s_brk, s_cnt, s_pas, s_nvr, s_frz, s_mov, s_bpop, s_bset, wpE, wpEs, getV, getB, getO, bnd_some, tst_bl, binD, addD, subD, mulD, int2, cmpD, ordD, biD, one, extD, atD, bindT, bindTs, parT, ownS, iterD, itemsOf, partD, absE, sliD, revD, isTy, isNon, permD, List.set_cons_zero, List.set_cons_succ, List.getD_cons_zero, List.getD_cons_succ, frzS, frz1, wipeS, List.modify_zero_cons, List.modify_succ_cons, Bool.true_eq_false, Bool.false_eq_true, if_true, if_false, ite_true, ite_false, reduceIte, List.replicate, Nat.add_zero, Nat.zero_add, if_pos, Nat.one_ne_zero, Nat.reduceEqDiff, reduceCtorEq, decide_eq_true_eq, eqD, eqDs, ty_beq, decide_true, decide_false, Bool.not_true, Bool.not_false, wps_nil, List.map_cons, List.map_nil, List.cons_append, List.nil_append, Bool.and_true, Bool.true_and, Bool.and_false, Bool.false_and, not_true_eq_false, not_false_eq_true, List.length_cons, List.length_nil, at_0, at_1, at_2, at_3] using hK
    have few := hR.few hi
    refine ⟨by rw [List.length_map, List.length_map]; unfold LIM; omega, nexts rows, 2, 64, ?_, ?_, by decide, fun r hr => ?_, fun qs hn hm _ => ?_⟩
    · unfold nexts
      rw [List.map_append, List.map_map, List.map_map]
      rfl
    · unfold nexts
      rw [List.length_append, List.length_map, List.length_map]
      omega
    · obtain ⟨s, c, rfl, h0, h1⟩ := row_next hR.in_ r hr
      refine ⟨rfl, fun m hm => ?_⟩
      simp only [List.mem_cons, List.not_mem_nil, or_false] at hm
      rcases hm with rfl | rfl <;> omega
    have hR' := hR.next hn hm
    (try simp only [s_asg, s_asgO, s_unp, s_par, s_app, s_ext, s_seti, s_ex, s_ite, s_ret, s_retN, s_brk, s_cnt, s_pas, s_nvr, s_frz, s_mov, s_bpop, s_bset, wpE, wpEs, getV, getB, getO, bnd_some, tst_bl, binD, addD, subD, mulD, int2, cmpD, ordD, biD, one, extD, atD, bindT, bindTs, parT, ownS, iterD, itemsOf, partD, absE, sliD, revD, isTy, isNon, permD, List.set_cons_zero, List.set_cons_succ, List.getD_cons_zero, List.getD_cons_succ, frzS, frz1, wipeS, List.modify_zero_cons, List.modify_succ_cons, Bool.true_eq_false, Bool.false_eq_true, if_true, if_false, ite_true, ite_false, reduceIte, List.replicate, Nat.add_zero, Nat.zero_add, if_pos, Nat.one_ne_zero, Nat.reduceEqDiff, reduceCtorEq, decide_eq_true_eq, eqD, eqDs, ty_beq, decide_true, decide_false, Bool.not_true, Bool.not_false, wps_nil, List.map_cons, List.map_nil, List.cons_append, List.nil_append, Bool.and_true, Bool.true_and, Bool.and_false, Bool.false_and, not_true_eq_false, not_false_eq_true, List.length_cons, List.length_nil, at_0, at_1, at_2, at_3])
    rw [wps_cons]
    simp only [s_asg, s_asgO, s_unp, s_par, s_app, s_ext, s_seti, s_ex, s_ite, s_ret, s_retN, s_brk, s_cnt, s_pas, s_nvr, s_frz, s_mov, s_bpop, s_bset, wpE, wpEs, getV, getB, getO, bnd_some, tst_bl, binD, addD, subD, mulD, int2, cmpD, ordD, biD, one, extD, atD, bindT, bindTs, parT, ownS, iterD, itemsOf, partD, absE, sliD, revD, isTy, isNon, permD, List.set_cons_zero, List.set_cons_succ, List.getD_cons_zero, List.getD_cons_succ, frzS, frz1, wipeS, List.modify_zero_cons, List.modify_succ_cons, Bool.true_eq_false, Bool.false_eq_true, if_true, if_false, ite_true, ite_false, reduceIte, List.replicate, Nat.add_zero, Nat.zero_add, if_pos, Nat.one_ne_zero, Nat.reduceEqDiff, reduceCtorEq, decide_eq_true_eq, eqD, eqDs, ty_beq, decide_true, decide_false, Bool.not_true, Bool.not_false, wps_nil, List.map_cons, List.map_nil, List.cons_append, List.nil_append, Bool.and_true, Bool.true_and, Bool.and_false, Bool.false_and, not_true_eq_false, not_false_eq_true, List.length_cons, List.length_nil, at_0, at_1, at_2, at_3]
    refine lcL_one (H := fun r : List Int => D.int (r.getD 1 0)) (fun r hr B K hK => ?_) ?_
    · obtain ⟨s, c, rfl, _⟩ := hR'.in_ r hr
      simpa only [s_asg, s_asgO, s_unp, s_par, s_app, s_ext, s_seti, s_ex, s_ite, s_ret, s_retN, s_brk, s_cnt, s_pas, s_nvr, s_frz, s_mov, s_bpop, s_bset, wpE, wpEs, getV, getB, getO, bnd_some, tst_bl, binD, addD, subD, mulD, int2, cmpD, ordD, biD, one, extD, atD, bindT, bindTs, parT, ownS, iterD, itemsOf, partD, absE, sliD, revD, isTy, isNon, permD, List.set_cons_zero, List.set_cons_succ, List.getD_cons_zero, List.getD_cons_succ, frzS, frz1, wipeS, List.modify_zero_cons, List.modify_succ_cons, Bool.true_eq_false, Bool.false_eq_true, if_true, if_false, ite_true, ite_false, reduceIte, List.replicate, Nat.add_zero, Nat.zero_add, if_pos, Nat.one_ne_zero, Nat.reduceEqDiff, reduceCtorEq, decide_eq_true_eq, eqD, eqDs, ty_beq, decide_true, decide_false, Bool.not_true, Bool.not_false, wps_nil, List.map_cons, List.map_nil, List.cons_append, List.nil_append, Bool.and_true, Bool.true_and, Bool.and_false, Bool.false_and, not_true_eq_false, not_false_eq_true, List.length_cons, List.length_nil, at_0, at_1, at_2, at_3] using hK
    refine ⟨qs.map fun r => r.getD 1 0, by rw [List.map_map]; rfl, fun e => ?_, qs, .va x, hR', ?_⟩
    · have e := List.map_eq_nil_iff.mp e
      have := hR'.top
      rw [e] at this
      cases this
    · rw [hR'.best]
  · rintro σ B4 ⟨rows, s4, hR, rfl⟩
    have hl : (rngD 0 n).length = n.toNat := by rw [rngD_len]; congr 1; omega
    rw [hl]
    have e1 : (if n.toNat = 0 then (0 : Int) else 2 * (n.toNat : Int) - 1) = if n = 0 then 0 else 2 * n - 1 := by
      by_cases h : n = 0
      · rw [if_pos h, if_pos (by omega)]
      · rw [if_neg h, if_neg (by omega)]; omega
    rw [e1]
    (try simp only [s_asg, s_asgO, s_unp, s_par, s_app, s_ext, s_seti, s_ex, s_ite, s_ret, s_retN, s_brk, s_cnt, s_pas, s_nvr, s_frz, s_mov, s_bpop, s_bset, wpE, wpEs, getV, getB, getO, bnd_some, tst_bl, binD, addD, subD, mulD, int2, cmpD, ordD, biD, one, extD, atD, bindT, bindTs, parT, ownS, iterD, itemsOf, partD, absE, sliD, revD, isTy, isNon, permD, List.set_cons_zero, List.set_cons_succ, List.getD_cons_zero, List.getD_cons_succ, frzS, frz1, wipeS, List.modify_zero_cons, List.modify_succ_cons, Bool.true_eq_false, Bool.false_eq_true, if_true, if_false, ite_true, ite_false, reduceIte, List.replicate, Nat.add_zero, Nat.zero_add, if_pos, Nat.one_ne_zero, Nat.reduceEqDiff, reduceCtorEq, decide_eq_true_eq, eqD, eqDs, ty_beq, decide_true, decide_false, Bool.not_true, Bool.not_false, wps_nil, List.map_cons, List.map_nil, List.cons_append, List.nil_append, Bool.and_true, Bool.true_and, Bool.and_false, Bool.false_and, not_true_eq_false, not_false_eq_true, List.length_cons, List.length_nil, at_0, at_1, at_2, at_3]); rw [wps_cons]
    simp only [s_asg, s_asgO, s_unp, s_par, s_app, s_ext, s_seti, s_ex, s_ite, s_ret, s_retN, s_brk, s_cnt, s_pas, s_nvr, s_frz, s_mov, s_bpop, s_bset, wpE, wpEs, getV, getB, getO, bnd_some, tst_bl, binD, addD, subD, mulD, int2, cmpD, ordD, biD, one, extD, atD, bindT, bindTs, parT, ownS, iterD, itemsOf, partD, absE, sliD, revD, isTy, isNon, permD, List.set_cons_zero, List.set_cons_succ, List.getD_cons_zero, List.getD_cons_succ, frzS, frz1, wipeS, List.modify_zero_cons, List.modify_succ_cons, Bool.true_eq_false, Bool.false_eq_true, if_true, if_false, ite_true, ite_false, reduceIte, List.replicate, Nat.add_zero, Nat.zero_add, if_pos, Nat.one_ne_zero, Nat.reduceEqDiff, reduceCtorEq, decide_eq_true_eq, eqD, eqDs, ty_beq, decide_true, decide_false, Bool.not_true, Bool.not_false, wps_nil, List.map_cons, List.map_nil, List.cons_append, List.nil_append, Bool.and_true, Bool.true_and, Bool.and_false, Bool.false_and, not_true_eq_false, not_false_eq_true, List.length_cons, List.length_nil, at_0, at_1, at_2, at_3, h3, h12]
    refine ⟨n, rfl, n, rfl, ?_⟩
    (try dsimp only); (try rw [h12])
    refine same_at rfl (by rfl) ?_
    (try simp only [s_asg, s_asgO, s_unp, s_par, s_app, s_ext, s_seti, s_ex, s_ite, s_ret, s_retN, s_brk, s_cnt, s_pas, s_nvr, s_frz, s_mov, s_bpop, s_bset, wpE, wpEs, getV, getB, getO, bnd_some, tst_bl, binD, addD, subD, mulD, int2, cmpD, ordD, biD, one, extD, atD, bindT, bindTs, parT, ownS, iterD, itemsOf, partD, absE, sliD, revD, isTy, isNon, permD, List.set_cons_zero, List.set_cons_succ, List.getD_cons_zero, List.getD_cons_succ, frzS, frz1, wipeS, List.modify_zero_cons, List.modify_succ_cons, Bool.true_eq_false, Bool.false_eq_true, if_true, if_false, ite_true, ite_false, reduceIte, List.replicate, Nat.add_zero, Nat.zero_add, if_pos, Nat.one_ne_zero, Nat.reduceEqDiff, reduceCtorEq, decide_eq_true_eq, eqD, eqDs, ty_beq, decide_true, decide_false, Bool.not_true, Bool.not_false, wps_nil, List.map_cons, List.map_nil, List.cons_append, List.nil_append, Bool.and_true, Bool.true_and, Bool.and_false, Bool.false_and, not_true_eq_false, not_false_eq_true, List.length_cons, List.length_nil, at_0, at_1, at_2, at_3]); rw [wps_cons]
    simp only [s_asg, s_asgO, s_unp, s_par, s_app, s_ext, s_seti, s_ex, s_ite, s_ret, s_retN, s_brk, s_cnt, s_pas, s_nvr, s_frz, s_mov, s_bpop, s_bset, wpE, wpEs, getV, getB, getO, bnd_some, tst_bl, binD, addD, subD, mulD, int2, cmpD, ordD, biD, one, extD, atD, bindT, bindTs, parT, ownS, iterD, itemsOf, partD, absE, sliD, revD, isTy, isNon, permD, List.set_cons_zero, List.set_cons_succ, List.getD_cons_zero, List.getD_cons_succ, frzS, frz1, wipeS, List.modify_zero_cons, List.modify_succ_cons, Bool.true_eq_false, Bool.false_eq_true, if_true, if_false, ite_true, ite_false, reduceIte, List.replicate, Nat.add_zero, Nat.zero_add, if_pos, Nat.one_ne_zero, Nat.reduceEqDiff, reduceCtorEq, decide_eq_true_eq, eqD, eqDs, ty_beq, decide_true, decide_false, Bool.not_true, Bool.not_false, wps_nil, List.map_cons, List.map_nil, List.cons_append, List.nil_append, Bool.and_true, Bool.true_and, Bool.and_false, Bool.false_and, not_true_eq_false, not_false_eq_true, List.length_cons, List.length_nil, at_0, at_1, at_2, at_3, hD, hP]
    refine draw_at (by decide) (by decide) fun d B5 d1 d2 => pickL_at (by simp) (by simp) fun m0 hm B6 => ?_
    obtain ⟨m, rfl, hm1, hm2⟩ : ∃ m : Int, m0 = .int m ∧ 1 ≤ m ∧ m ≤ 60 := by
      simp only [List.mem_cons, List.not_mem_nil, or_false] at hm
      rcases hm with rfl | rfl | rfl <;> exact ⟨_, rfl, by omega, by omega⟩
    clear hm
    obtain ⟨k, hk⟩ := Int.eq_ofNat_of_zero_le (show 0 ≤ m - 1 by omega)
    (try simp only [s_asg, s_asgO, s_unp, s_par, s_app, s_ext, s_seti, s_ex, s_ite, s_ret, s_retN, s_brk, s_cnt, s_pas, s_nvr, s_frz, s_mov, s_bpop, s_bset, wpE, wpEs, getV, getB, getO, bnd_some, tst_bl, binD, addD, subD, mulD, int2, cmpD, ordD, biD, one, extD, atD, bindT, bindTs, parT, ownS, iterD, itemsOf, partD, absE, sliD, revD, isTy, isNon, permD, List.set_cons_zero, List.set_cons_succ, List.getD_cons_zero, List.getD_cons_succ, frzS, frz1, wipeS, List.modify_zero_cons, List.modify_succ_cons, Bool.true_eq_false, Bool.false_eq_true, if_true, if_false, ite_true, ite_false, reduceIte, List.replicate, Nat.add_zero, Nat.zero_add, if_pos, Nat.one_ne_zero, Nat.reduceEqDiff, reduceCtorEq, decide_eq_true_eq, eqD, eqDs, ty_beq, decide_true, decide_false, Bool.not_true, Bool.not_false, wps_nil, List.map_cons, List.map_nil, List.cons_append, List.nil_append, Bool.and_true, Bool.true_and, Bool.and_false, Bool.false_and, not_true_eq_false, not_false_eq_true, List.length_cons, List.length_nil, at_0, at_1, at_2, at_3]); rw [wps_cons]
    simp only [s_asg, s_asgO, s_unp, s_par, s_app, s_ext, s_seti, s_ex, s_ite, s_ret, s_retN, s_brk, s_cnt, s_pas, s_nvr, s_frz, s_mov, s_bpop, s_bset, wpE, wpEs, getV, getB, getO, bnd_some, tst_bl, binD, addD, subD, mulD, int2, cmpD, ordD, biD, one, extD, atD, bindT, bindTs, parT, ownS, iterD, itemsOf, partD, absE, sliD, revD, isTy, isNon, permD, List.set_cons_zero, List.set_cons_succ, List.getD_cons_zero, List.getD_cons_succ, frzS, frz1, wipeS, List.modify_zero_cons, List.modify_succ_cons, Bool.true_eq_false, Bool.false_eq_true, if_true, if_false, ite_true, ite_false, reduceIte, List.replicate, Nat.add_zero, Nat.zero_add, if_pos, Nat.one_ne_zero, Nat.reduceEqDiff, reduceCtorEq, decide_eq_true_eq, eqD, eqDs, ty_beq, decide_true, decide_false, Bool.not_true, Bool.not_false, wps_nil, List.map_cons, List.map_nil, List.cons_append, List.nil_append, Bool.and_true, Bool.true_and, Bool.and_false, Bool.false_and, not_true_eq_false, not_false_eq_true, List.length_cons, List.length_nil, at_0, at_1, at_2, at_3]
    rw [hk, rep_none]
    refine ⟨by omega, by omega, by decide, by rw [List.length_map, List.length_replicate]; unfold LIM; omega, ?_⟩
    (try simp only [s_asg, s_asgO, s_unp, s_par, s_app, s_ext, s_seti, s_ex, s_ite, s_ret, s_retN, s_brk, s_cnt, s_pas, s_nvr, s_frz, s_mov, s_bpop, s_bset, wpE, wpEs, getV, getB, getO, bnd_some, tst_bl, binD, addD, subD, mulD, int2, cmpD, ordD, biD, one, extD, atD, bindT, bindTs, parT, ownS, iterD, itemsOf, partD, absE, sliD, revD, isTy, isNon, permD, List.set_cons_zero, List.set_cons_succ, List.getD_cons_zero, List.getD_cons_succ, frzS, frz1, wipeS, List.modify_zero_cons, List.modify_succ_cons, Bool.true_eq_false, Bool.false_eq_true, if_true, if_false, ite_true, ite_false, reduceIte, List.replicate, Nat.add_zero, Nat.zero_add, if_pos, Nat.one_ne_zero, Nat.reduceEqDiff, reduceCtorEq, decide_eq_true_eq, eqD, eqDs, ty_beq, decide_true, decide_false, Bool.not_true, Bool.not_false, wps_nil, List.map_cons, List.map_nil, List.cons_append, List.nil_append, Bool.and_true, Bool.true_and, Bool.and_false, Bool.false_and, not_true_eq_false, not_false_eq_true, List.length_cons, List.length_nil, at_0, at_1, at_2, at_3]); rw [wps_cons]
    simp only [s_asg, s_asgO, s_unp, s_par, s_app, s_ext, s_seti, s_ex, s_ite, s_ret, s_retN, s_brk, s_cnt, s_pas, s_nvr, s_frz, s_mov, s_bpop, s_bset, wpE, wpEs, getV, getB, getO, bnd_some, tst_bl, binD, addD, subD, mulD, int2, cmpD, ordD, biD, one, extD, atD, bindT, bindTs, parT, ownS, iterD, itemsOf, partD, absE, sliD, revD, isTy, isNon, permD, List.set_cons_zero, List.set_cons_succ, List.getD_cons_zero, List.getD_cons_succ, frzS, frz1, wipeS, List.modify_zero_cons, List.modify_succ_cons, Bool.true_eq_false, Bool.false_eq_true, if_true, if_false, ite_true, ite_false, reduceIte, List.replicate, Nat.add_zero, Nat.zero_add, if_pos, Nat.one_ne_zero, Nat.reduceEqDiff, reduceCtorEq, decide_eq_true_eq, eqD, eqDs, ty_beq, decide_true, decide_false, Bool.not_true, Bool.not_false, wps_nil, List.map_cons, List.map_nil, List.cons_append, List.nil_append, Bool.and_true, Bool.true_and, Bool.and_false, Bool.false_and, not_true_eq_false, not_false_eq_true, List.length_cons, List.length_nil, at_0, at_1, at_2, at_3, h2, h3]
    refine ⟨m, rfl, 0, List.replicate k none ++ [some 60], by rw [List.map_append]; rfl, by rw [List.length_append, List.length_replicate]; simp only [List.length_cons, List.length_nil]; omega, _, rfl, mulOk_l (by decide), ?_⟩
    (try dsimp only); rw [h12]
    refine ⟨mulOk_l (by decide), same_at ?_ rfl (q _)⟩
    have e1 := run_sum 0 (List.replicate k none ++ [some 60])
    have e2 : runS 0 (List.replicate k none ++ [some 60]) = 0 := by
      rw [runS_append, run_puts]
      show after (0 + (k : Int)) (some 60) = 0
      simp only [after]
      split <;> omega
    have e3 : puts (List.replicate k none ++ [some 60]) = k := by
      rw [puts_append, puts_puts]; rfl
    rw [e2, e3, List.length_append, List.length_replicate] at e1
    simp only [List.length_cons, List.length_nil] at e1
    rw [if_neg (by omega), e1]
    have : ((k + 1 : Nat) : Int) + k + 0 - 0 = 2 * m - 1 := by omega
    rw [this]
theorem wp_law (B : Bag) : wpSs (cut 20 Γ) irlawR ⟨fun _ _ => False, fun d _ => d = .bl true, fun _ _ => False, fun _ _ => False⟩ (Sl.no :: Sl.va .bag :: List.replicate 1 Sl.no) B := by
  have G := cut_mono (m := 20) Γ_mono
  have h14 : cut 20 Γ 14 = SB := rfl
  have h17 : cut 20 Γ 17 = SB := rfl
  have h18 : cut 20 Γ 18 = SB := rfl
  have h19 : cut 20 Γ 19 = SB := rfl
  have h12 : cut 20 Γ 12 = semSame 4 := rfl
  have h2 : cut 20 Γ 2 = S2 := rfl
  have h9 : cut 20 Γ 9 = S9 := rfl
  unfold irlawR
  rw [wps_cons]
  refine wp_for G ?_
  simp only [s_asg, s_asgO, s_unp, s_par, s_app, s_ext, s_seti, s_ex, s_ite, s_ret, s_retN, s_brk, s_cnt, s_pas, s_nvr, s_frz, s_mov, s_bpop, s_bset, wpE, wpEs, getV, getB, getO, bnd_some, tst_bl, binD, addD, subD, mulD, int2, cmpD, ordD, biD, one, extD, atD, bindT, bindTs, parT, ownS, iterD, itemsOf, partD, absE, sliD, revD, isTy, isNon, permD, List.set_cons_zero, List.set_cons_succ, List.getD_cons_zero, List.getD_cons_succ, frzS, frz1, wipeS, List.modify_zero_cons, List.modify_succ_cons, Bool.true_eq_false, Bool.false_eq_true, if_true, if_false, ite_true, ite_false, reduceIte, List.replicate, Nat.add_zero, Nat.zero_add, if_pos, Nat.one_ne_zero, Nat.reduceEqDiff, reduceCtorEq, decide_eq_true_eq, eqD, eqDs, ty_beq, decide_true, decide_false, Bool.not_true, Bool.not_false, wps_nil, List.map_cons, List.map_nil, List.cons_append, List.nil_append, Bool.and_true, Bool.true_and, Bool.and_false, Bool.false_and, not_true_eq_false, not_false_eq_true, List.length_cons, List.length_nil, at_0, at_1, at_2, at_3]
  refine ⟨⟨by decide, by decide⟩, fun i σ _ => ∃ s2, σ = [.no, .va .bag, s2], ⟨.no, rfl⟩, ?_, ?_⟩
  · rintro i x σ B4 hx ⟨s2, rfl⟩
    (try simp only [s_asg, s_asgO, s_unp, s_par, s_app, s_ext, s_seti, s_ex, s_ite, s_ret, s_retN, s_brk, s_cnt, s_pas, s_nvr, s_frz, s_mov, s_bpop, s_bset, wpE, wpEs, getV, getB, getO, bnd_some, tst_bl, binD, addD, subD, mulD, int2, cmpD, ordD, biD, one, extD, atD, bindT, bindTs, parT, ownS, iterD, itemsOf, partD, absE, sliD, revD, isTy, isNon, permD, List.set_cons_zero, List.set_cons_succ, List.getD_cons_zero, List.getD_cons_succ, frzS, frz1, wipeS, List.modify_zero_cons, List.modify_succ_cons, Bool.true_eq_false, Bool.false_eq_true, if_true, if_false, ite_true, ite_false, reduceIte, List.replicate, Nat.add_zero, Nat.zero_add, if_pos, Nat.one_ne_zero, Nat.reduceEqDiff, reduceCtorEq, decide_eq_true_eq, eqD, eqDs, ty_beq, decide_true, decide_false, Bool.not_true, Bool.not_false, wps_nil, List.map_cons, List.map_nil, List.cons_append, List.nil_append, Bool.and_true, Bool.true_and, Bool.and_false, Bool.false_and, not_true_eq_false, not_false_eq_true, List.length_cons, List.length_nil, at_0, at_1, at_2, at_3])
    rw [wps_cons]
    simp only [s_asg, s_asgO, s_unp, s_par, s_app, s_ext, s_seti, s_ex, s_ite, s_ret, s_retN, s_brk, s_cnt, s_pas, s_nvr, s_frz, s_mov, s_bpop, s_bset, wpE, wpEs, getV, getB, getO, bnd_some, tst_bl, binD, addD, subD, mulD, int2, cmpD, ordD, biD, one, extD, atD, bindT, bindTs, parT, ownS, iterD, itemsOf, partD, absE, sliD, revD, isTy, isNon, permD, List.set_cons_zero, List.set_cons_succ, List.getD_cons_zero, List.getD_cons_succ, frzS, frz1, wipeS, List.modify_zero_cons, List.modify_succ_cons, Bool.true_eq_false, Bool.false_eq_true, if_true, if_false, ite_true, ite_false, reduceIte, List.replicate, Nat.add_zero, Nat.zero_add, if_pos, Nat.one_ne_zero, Nat.reduceEqDiff, reduceCtorEq, decide_eq_true_eq, eqD, eqDs, ty_beq, decide_true, decide_false, Bool.not_true, Bool.not_false, wps_nil, List.map_cons, List.map_nil, List.cons_append, List.nil_append, Bool.and_true, Bool.true_and, Bool.and_false, Bool.false_and, not_true_eq_false, not_false_eq_true, List.length_cons, List.length_nil, at_0, at_1, at_2, at_3, h14, h17]
    refine ⟨rfl, fun B1 => ?_⟩
    (try simp only [s_asg, s_asgO, s_unp, s_par, s_app, s_ext, s_seti, s_ex, s_ite, s_ret, s_retN, s_brk, s_cnt, s_pas, s_nvr, s_frz, s_mov, s_bpop, s_bset, wpE, wpEs, getV, getB, getO, bnd_some, tst_bl, binD, addD, subD, mulD, int2, cmpD, ordD, biD, one, extD, atD, bindT, bindTs, parT, ownS, iterD, itemsOf, partD, absE, sliD, revD, isTy, isNon, permD, List.set_cons_zero, List.set_cons_succ, List.getD_cons_zero, List.getD_cons_succ, frzS, frz1, wipeS, List.modify_zero_cons, List.modify_succ_cons, Bool.true_eq_false, Bool.false_eq_true, if_true, if_false, ite_true, ite_false, reduceIte, List.replicate, Nat.add_zero, Nat.zero_add, if_pos, Nat.one_ne_zero, Nat.reduceEqDiff, reduceCtorEq, decide_eq_true_eq, eqD, eqDs, ty_beq, decide_true, decide_false, Bool.not_true, Bool.not_false, wps_nil, List.map_cons, List.map_nil, List.cons_append, List.nil_append, Bool.and_true, Bool.true_and, Bool.and_false, Bool.false_and, not_true_eq_false, not_false_eq_true, List.length_cons, List.length_nil, at_0, at_1, at_2, at_3])
    refine ⟨rfl, fun B2 => ?_⟩
    (try simp only [s_asg, s_asgO, s_unp, s_par, s_app, s_ext, s_seti, s_ex, s_ite, s_ret, s_retN, s_brk, s_cnt, s_pas, s_nvr, s_frz, s_mov, s_bpop, s_bset, wpE, wpEs, getV, getB, getO, bnd_some, tst_bl, binD, addD, subD, mulD, int2, cmpD, ordD, biD, one, extD, atD, bindT, bindTs, parT, ownS, iterD, itemsOf, partD, absE, sliD, revD, isTy, isNon, permD, List.set_cons_zero, List.set_cons_succ, List.getD_cons_zero, List.getD_cons_succ, frzS, frz1, wipeS, List.modify_zero_cons, List.modify_succ_cons, Bool.true_eq_false, Bool.false_eq_true, if_true, if_false, ite_true, ite_false, reduceIte, List.replicate, Nat.add_zero, Nat.zero_add, if_pos, Nat.one_ne_zero, Nat.reduceEqDiff, reduceCtorEq, decide_eq_true_eq, eqD, eqDs, ty_beq, decide_true, decide_false, Bool.not_true, Bool.not_false, wps_nil, List.map_cons, List.map_nil, List.cons_append, List.nil_append, Bool.and_true, Bool.true_and, Bool.and_false, Bool.false_and, not_true_eq_false, not_false_eq_true, List.length_cons, List.length_nil, at_0, at_1, at_2, at_3])
    refine ⟨rfl, fun B3 => ?_⟩
    (try simp only [s_asg, s_asgO, s_unp, s_par, s_app, s_ext, s_seti, s_ex, s_ite, s_ret, s_retN, s_brk, s_cnt, s_pas, s_nvr, s_frz, s_mov, s_bpop, s_bset, wpE, wpEs, getV, getB, getO, bnd_some, tst_bl, binD, addD, subD, mulD, int2, cmpD, ordD, biD, one, extD, atD, bindT, bindTs, parT, ownS, iterD, itemsOf, partD, absE, sliD, revD, isTy, isNon, permD, List.set_cons_zero, List.set_cons_succ, List.getD_cons_zero, List.getD_cons_succ, frzS, frz1, wipeS, List.modify_zero_cons, List.modify_succ_cons, Bool.true_eq_false, Bool.false_eq_true, if_true, if_false, ite_true, ite_false, reduceIte, List.replicate, Nat.add_zero, Nat.zero_add, if_pos, Nat.one_ne_zero, Nat.reduceEqDiff, reduceCtorEq, decide_eq_true_eq, eqD, eqDs, ty_beq, decide_true, decide_false, Bool.not_true, Bool.not_false, wps_nil, List.map_cons, List.map_nil, List.cons_append, List.nil_append, Bool.and_true, Bool.true_and, Bool.and_false, Bool.false_and, not_true_eq_false, not_false_eq_true, List.length_cons, List.length_nil, at_0, at_1, at_2, at_3])
    rw [wps_cons]
    simp only [s_asg, s_asgO, s_unp, s_par, s_app, s_ext, s_seti, s_ex, s_ite, s_ret, s_retN, s_brk, s_cnt, s_pas, s_nvr, s_frz, s_mov, s_bpop, s_bset, wpE, wpEs, getV, getB, getO, bnd_some, tst_bl, binD, addD, subD, mulD, int2, cmpD, ordD, biD, one, extD, atD, bindT, bindTs, parT, ownS, iterD, itemsOf, partD, absE, sliD, revD, isTy, isNon, permD, List.set_cons_zero, List.set_cons_succ, List.getD_cons_zero, List.getD_cons_succ, frzS, frz1, wipeS, List.modify_zero_cons, List.modify_succ_cons, Bool.true_eq_false, Bool.false_eq_true, if_true, if_false, ite_true, ite_false, reduceIte, List.replicate, Nat.add_zero, Nat.zero_add, if_pos, Nat.one_ne_zero, Nat.reduceEqDiff, reduceCtorEq, decide_eq_true_eq, eqD, eqDs, ty_beq, decide_true, decide_false, Bool.not_true, Bool.not_false, wps_nil, List.map_cons, List.map_nil, List.cons_append, List.nil_append, Bool.and_true, Bool.true_and, Bool.and_false, Bool.false_and, not_true_eq_false, not_false_eq_true, List.length_cons, List.length_nil, at_0, at_1, at_2, at_3, h18, h19]
    refine ⟨rfl, fun B1 => ?_⟩
    (try simp only [s_asg, s_asgO, s_unp, s_par, s_app, s_ext, s_seti, s_ex, s_ite, s_ret, s_retN, s_brk, s_cnt, s_pas, s_nvr, s_frz, s_mov, s_bpop, s_bset, wpE, wpEs, getV, getB, getO, bnd_some, tst_bl, binD, addD, subD, mulD, int2, cmpD, ordD, biD, one, extD, atD, bindT, bindTs, parT, ownS, iterD, itemsOf, partD, absE, sliD, revD, isTy, isNon, permD, List.set_cons_zero, List.set_cons_succ, List.getD_cons_zero, List.getD_cons_succ, frzS, frz1, wipeS, List.modify_zero_cons, List.modify_succ_cons, Bool.true_eq_false, Bool.false_eq_true, if_true, if_false, ite_true, ite_false, reduceIte, List.replicate, Nat.add_zero, Nat.zero_add, if_pos, Nat.one_ne_zero, Nat.reduceEqDiff, reduceCtorEq, decide_eq_true_eq, eqD, eqDs, ty_beq, decide_true, decide_false, Bool.not_true, Bool.not_false, wps_nil, List.map_cons, List.map_nil, List.cons_append, List.nil_append, Bool.and_true, Bool.true_and, Bool.and_false, Bool.false_and, not_true_eq_false, not_false_eq_true, List.length_cons, List.length_nil, at_0, at_1, at_2, at_3])
    refine ⟨rfl, fun B2 => ?_⟩
    (try simp only [s_asg, s_asgO, s_unp, s_par, s_app, s_ext, s_seti, s_ex, s_ite, s_ret, s_retN, s_brk, s_cnt, s_pas, s_nvr, s_frz, s_mov, s_bpop, s_bset, wpE, wpEs, getV, getB, getO, bnd_some, tst_bl, binD, addD, subD, mulD, int2, cmpD, ordD, biD, one, extD, atD, bindT, bindTs, parT, ownS, iterD, itemsOf, partD, absE, sliD, revD, isTy, isNon, permD, List.set_cons_zero, List.set_cons_succ, List.getD_cons_zero, List.getD_cons_succ, frzS, frz1, wipeS, List.modify_zero_cons, List.modify_succ_cons, Bool.true_eq_false, Bool.false_eq_true, if_true, if_false, ite_true, ite_false, reduceIte, List.replicate, Nat.add_zero, Nat.zero_add, if_pos, Nat.one_ne_zero, Nat.reduceEqDiff, reduceCtorEq, decide_eq_true_eq, eqD, eqDs, ty_beq, decide_true, decide_false, Bool.not_true, Bool.not_false, wps_nil, List.map_cons, List.map_nil, List.cons_append, List.nil_append, Bool.and_true, Bool.true_and, Bool.and_false, Bool.false_and, not_true_eq_false, not_false_eq_true, List.length_cons, List.length_nil, at_0, at_1, at_2, at_3])
    exact ⟨_, rfl⟩
  · rintro σ B4 ⟨s2, rfl⟩
    (try simp only [s_asg, s_asgO, s_unp, s_par, s_app, s_ext, s_seti, s_ex, s_ite, s_ret, s_retN, s_brk, s_cnt, s_pas, s_nvr, s_frz, s_mov, s_bpop, s_bset, wpE, wpEs, getV, getB, getO, bnd_some, tst_bl, binD, addD, subD, mulD, int2, cmpD, ordD, biD, one, extD, atD, bindT, bindTs, parT, ownS, iterD, itemsOf, partD, absE, sliD, revD, isTy, isNon, permD, List.set_cons_zero, List.set_cons_succ, List.getD_cons_zero, List.getD_cons_succ, frzS, frz1, wipeS, List.modify_zero_cons, List.modify_succ_cons, Bool.true_eq_false, Bool.false_eq_true, if_true, if_false, ite_true, ite_false, reduceIte, List.replicate, Nat.add_zero, Nat.zero_add, if_pos, Nat.one_ne_zero, Nat.reduceEqDiff, reduceCtorEq, decide_eq_true_eq, eqD, eqDs, ty_beq, decide_true, decide_false, Bool.not_true, Bool.not_false, wps_nil, List.map_cons, List.map_nil, List.cons_append, List.nil_append, Bool.and_true, Bool.true_and, Bool.and_false, Bool.false_and, not_true_eq_false, not_false_eq_true, List.length_cons, List.length_nil, at_0, at_1, at_2, at_3])
    rw [wps_cons]
    simp only [s_asg, s_asgO, s_unp, s_par, s_app, s_ext, s_seti, s_ex, s_ite, s_ret, s_retN, s_brk, s_cnt, s_pas, s_nvr, s_frz, s_mov, s_bpop, s_bset, wpE, wpEs, getV, getB, getO, bnd_some, tst_bl, binD, addD, subD, mulD, int2, cmpD, ordD, biD, one, extD, atD, bindT, bindTs, parT, ownS, iterD, itemsOf, partD, absE, sliD, revD, isTy, isNon, permD, List.set_cons_zero, List.set_cons_succ, List.getD_cons_zero, List.getD_cons_succ, frzS, frz1, wipeS, List.modify_zero_cons, List.modify_succ_cons, Bool.true_eq_false, Bool.false_eq_true, if_true, if_false, ite_true, ite_false, reduceIte, List.replicate, Nat.add_zero, Nat.zero_add, if_pos, Nat.one_ne_zero, Nat.reduceEqDiff, reduceCtorEq, decide_eq_true_eq, eqD, eqDs, ty_beq, decide_true, decide_false, Bool.not_true, Bool.not_false, wps_nil, List.map_cons, List.map_nil, List.cons_append, List.nil_append, Bool.and_true, Bool.true_and, Bool.and_false, Bool.false_and, not_true_eq_false, not_false_eq_true, List.length_cons, List.length_nil, at_0, at_1, at_2, at_3, h2, h9]
    refine ⟨0, [none, none, none, some 2, some 5, none, some 0], rfl, by decide, ?_⟩
    (try simp only [s_asg, s_asgO, s_unp, s_par, s_app, s_ext, s_seti, s_ex, s_ite, s_ret, s_retN, s_brk, s_cnt, s_pas, s_nvr, s_frz, s_mov, s_bpop, s_bset, wpE, wpEs, getV, getB, getO, bnd_some, tst_bl, binD, addD, subD, mulD, int2, cmpD, ordD, biD, one, extD, atD, bindT, bindTs, parT, ownS, iterD, itemsOf, partD, absE, sliD, revD, isTy, isNon, permD, List.set_cons_zero, List.set_cons_succ, List.getD_cons_zero, List.getD_cons_succ, frzS, frz1, wipeS, List.modify_zero_cons, List.modify_succ_cons, Bool.true_eq_false, Bool.false_eq_true, if_true, if_false, ite_true, ite_false, reduceIte, List.replicate, Nat.add_zero, Nat.zero_add, if_pos, Nat.one_ne_zero, Nat.reduceEqDiff, reduceCtorEq, decide_eq_true_eq, eqD, eqDs, ty_beq, decide_true, decide_false, Bool.not_true, Bool.not_false, wps_nil, List.map_cons, List.map_nil, List.cons_append, List.nil_append, Bool.and_true, Bool.true_and, Bool.and_false, Bool.false_and, not_true_eq_false, not_false_eq_true, List.length_cons, List.length_nil, at_0, at_1, at_2, at_3])
    refine ⟨5, 20, rfl, by decide, by decide, by decide, by decide, ?_⟩
    rw [h12]
    exact same_at rfl rfl rfl
end K72


set_option autoImplicit false
namespace K72
open PySem PySem.Spec PyProof.Rows L2 TL
theorem fs_ix : ∀ (i : Nat) (u : Fn), pg.fs[i]? = some u → u.i = i := ix_by (by decide +kernel)
theorem b_0 {K : PySem.W.Frag} {f : Addr} {fd : FuncData} (F : Fun K "many_after" "many_after" (topS 1) f fd) : Binds K fd ["size", "deed"] [] ∧ ∀ q ∈ ([(0, ["deed", "size"], [1, 0])] : List (Nat × List Str × List Nat)), KwB K fd ["size", "deed"] q.1 q.2.1 q.2.2 := by
  refine ⟨F.binds (fun _ _ _ _ _ _ us hl => match us, hl with | [_, _], _ => rfl), fun q hq => ?_⟩
  obtain ⟨oc, od, kV, doc, pm, an, cdv, ct, osl, rfl, lk, hcd⟩ := F.ex
  simp only [List.mem_cons, List.not_mem_nil, or_false] at hq
  rcases hq with rfl
  · exact fun s us ws _ h1 h2 => match us, ws, h1, h2 with | [], [_, _], _, _ => .of_eq rfl
theorem b_1 {K : PySem.W.Frag} {f : Addr} {fd : FuncData} (F : Fun K "many_cost" "many_cost" (topS 2) f fd) : Binds K fd ["size", "deed"] [] ∧ ∀ q ∈ ([(0, ["deed", "size"], [1, 0])] : List (Nat × List Str × List Nat)), KwB K fd ["size", "deed"] q.1 q.2.1 q.2.2 := by
  refine ⟨F.binds (fun _ _ _ _ _ _ us hl => match us, hl with | [_, _], _ => rfl), fun q hq => ?_⟩
  obtain ⟨oc, od, kV, doc, pm, an, cdv, ct, osl, rfl, lk, hcd⟩ := F.ex
  simp only [List.mem_cons, List.not_mem_nil, or_false] at hq
  rcases hq with rfl
  · exact fun s us ws _ h1 h2 => match us, ws, h1, h2 with | [], [_, _], _, _ => .of_eq rfl
theorem b_2 {K : PySem.W.Frag} {f : Addr} {fd : FuncData} (F : Fun K "many_run" "many_run" (topS 3) f fd) : Binds K fd ["size", "deeds"] [] ∧ ∀ q ∈ ([(0, ["deeds", "size"], [1, 0])] : List (Nat × List Str × List Nat)), KwB K fd ["size", "deeds"] q.1 q.2.1 q.2.2 := by
  refine ⟨F.binds (fun _ _ _ _ _ _ us hl => match us, hl with | [_, _], _ => rfl), fun q hq => ?_⟩
  obtain ⟨oc, od, kV, doc, pm, an, cdv, ct, osl, rfl, lk, hcd⟩ := F.ex
  simp only [List.mem_cons, List.not_mem_nil, or_false] at hq
  rcases hq with rfl
  · exact fun s us ws _ h1 h2 => match us, ws, h1, h2 with | [], [_, _], _, _ => .of_eq rfl
theorem b_3 {K : PySem.W.Frag} {f : Addr} {fd : FuncData} (F : Fun K "many_most" "many_most" (topS 4) f fd) : Binds K fd ["n"] [] ∧ ∀ q ∈ ([(0, ["n"], [0])] : List (Nat × List Str × List Nat)), KwB K fd ["n"] q.1 q.2.1 q.2.2 := by
  refine ⟨F.binds (fun _ _ _ _ _ _ us hl => match us, hl with | [_], _ => rfl), fun q hq => ?_⟩
  obtain ⟨oc, od, kV, doc, pm, an, cdv, ct, osl, rfl, lk, hcd⟩ := F.ex
  simp only [List.mem_cons, List.not_mem_nil, or_false] at hq
  rcases hq with rfl
  · exact fun s us ws _ h1 h2 => match us, ws, h1, h2 with | [], [_], _, _ => .of_eq rfl
theorem b_4 {K : PySem.W.Frag} {f : Addr} {fd : FuncData} (F : Fun K "lowest" "lowest" (topS 7) f fd) : Binds K fd ["num", "den"] [] ∧ ∀ q ∈ ([] : List (Nat × List Str × List Nat)), KwB K fd ["num", "den"] q.1 q.2.1 q.2.2 := by
  refine ⟨F.binds (fun _ _ _ _ _ _ us hl => match us, hl with | [_, _], _ => rfl), fun q hq => ?_⟩
  cases hq
theorem b_5 {K : PySem.W.Frag} {f : Addr} {fd : FuncData} (F : Fun K "doubling_room" "doubling_room" (topS 9) f fd) : Binds K fd ["g", "n"] [] ∧ ∀ q ∈ ([(0, ["n", "g"], [1, 0])] : List (Nat × List Str × List Nat)), KwB K fd ["g", "n"] q.1 q.2.1 q.2.2 := by
  refine ⟨F.binds (fun _ _ _ _ _ _ us hl => match us, hl with | [_, _], _ => rfl), fun q hq => ?_⟩
  obtain ⟨oc, od, kV, doc, pm, an, cdv, ct, osl, rfl, lk, hcd⟩ := F.ex
  simp only [List.mem_cons, List.not_mem_nil, or_false] at hq
  rcases hq with rfl
  · exact fun s us ws _ h1 h2 => match us, ws, h1, h2 with | [], [_, _], _, _ => .of_eq rfl
theorem b_6 {K : PySem.W.Frag} {f : Addr} {fd : FuncData} (F : Fun K "doubling_costs" "doubling_costs" (topS 10) f fd) : Binds K fd ["g", "n"] [] ∧ ∀ q ∈ ([(0, ["n", "g"], [1, 0])] : List (Nat × List Str × List Nat)), KwB K fd ["g", "n"] q.1 q.2.1 q.2.2 := by
  refine ⟨F.binds (fun _ _ _ _ _ _ us hl => match us, hl with | [_, _], _ => rfl), fun q hq => ?_⟩
  obtain ⟨oc, od, kV, doc, pm, an, cdv, ct, osl, rfl, lk, hcd⟩ := F.ex
  simp only [List.mem_cons, List.not_mem_nil, or_false] at hq
  rcases hq with rfl
  · exact fun s us ws _ h1 h2 => match us, ws, h1, h2 with | [], [_, _], _, _ => .of_eq rfl
theorem b_7 {K : PySem.W.Frag} {f : Addr} {fd : FuncData} (F : Fun K "doubling_price" "doubling_price" (topS 12) f fd) : Binds K fd ["g"] [] ∧ ∀ q ∈ ([] : List (Nat × List Str × List Nat)), KwB K fd ["g"] q.1 q.2.1 q.2.2 := by
  refine ⟨F.binds (fun _ _ _ _ _ _ us hl => match us, hl with | [_], _ => rfl), fun q hq => ?_⟩
  cases hq
theorem b_8 {K : PySem.W.Frag} {f : Addr} {fd : FuncData} (F : Fun K "doubling_quotient" "doubling_quotient" (topS 13) f fd) : Binds K fd ["g", "n"] [] ∧ ∀ q ∈ ([] : List (Nat × List Str × List Nat)), KwB K fd ["g", "n"] q.1 q.2.1 q.2.2 := by
  refine ⟨F.binds (fun _ _ _ _ _ _ us hl => match us, hl with | [_, _], _ => rfl), fun q hq => ?_⟩
  cases hq
theorem b_9 {K : PySem.W.Frag} {f : Addr} {fd : FuncData} (F : Fun K "adding_costs" "adding_costs" (topS 14) f fd) : Binds K fd ["k", "n"] [] ∧ ∀ q ∈ ([(0, ["n", "k"], [1, 0])] : List (Nat × List Str × List Nat)), KwB K fd ["k", "n"] q.1 q.2.1 q.2.2 := by
  refine ⟨F.binds (fun _ _ _ _ _ _ us hl => match us, hl with | [_, _], _ => rfl), fun q hq => ?_⟩
  obtain ⟨oc, od, kV, doc, pm, an, cdv, ct, osl, rfl, lk, hcd⟩ := F.ex
  simp only [List.mem_cons, List.not_mem_nil, or_false] at hq
  rcases hq with rfl
  · exact fun s us ws _ h1 h2 => match us, ws, h1, h2 with | [], [_, _], _, _ => .of_eq rfl
theorem b_10 {K : PySem.W.Frag} {f : Addr} {fd : FuncData} (F : Fun K "_law_draw" "_law_draw" (topS 17) f fd) : Binds K fd ["bag", "below"] [] ∧ ∀ q ∈ ([] : List (Nat × List Str × List Nat)), KwB K fd ["bag", "below"] q.1 q.2.1 q.2.2 := by
  refine ⟨F.binds (fun _ _ _ _ _ _ us hl => match us, hl with | [_, _], _ => rfl), fun q hq => ?_⟩
  cases hq
theorem b_11 {K : PySem.W.Frag} {f : Addr} {fd : FuncData} (F : Fun K "_law_pick" "_law_pick" (topS 18) f fd) : Binds K fd ["bag", "some"] [] ∧ ∀ q ∈ ([] : List (Nat × List Str × List Nat)), KwB K fd ["bag", "some"] q.1 q.2.1 q.2.2 := by
  refine ⟨F.binds (fun _ _ _ _ _ _ us hl => match us, hl with | [_, _], _ => rfl), fun q hq => ?_⟩
  cases hq
theorem b_12 {K : PySem.W.Frag} {f : Addr} {fd : FuncData} (F : Fun K "_law_same" "_law_same" (topS 19) f fd) : Binds K fd ["told", "due"] [] ∧ ∀ q ∈ ([] : List (Nat × List Str × List Nat)), KwB K fd ["told", "due"] q.1 q.2.1 q.2.2 := by
  refine ⟨F.binds (fun _ _ _ _ _ _ us hl => match us, hl with | [_, _], _ => rfl), fun q hq => ?_⟩
  cases hq
theorem b_13 {K : PySem.W.Frag} {f : Addr} {fd : FuncData} (F : Fun K "_law_moved" "_law_moved" (topS 20) f fd) : Binds K fd ["g", "n"] [] ∧ ∀ q ∈ ([] : List (Nat × List Str × List Nat)), KwB K fd ["g", "n"] q.1 q.2.1 q.2.2 := by
  refine ⟨F.binds (fun _ _ _ _ _ _ us hl => match us, hl with | [_, _], _ => rfl), fun q hq => ?_⟩
  cases hq
theorem b_14 {K : PySem.W.Frag} {f : Addr} {fd : FuncData} (F : Fun K "_law_is_growing_right" "_law_is_growing_right" (topS 21) f fd) : Binds K fd ["bag"] [] ∧ ∀ q ∈ ([] : List (Nat × List Str × List Nat)), KwB K fd ["bag"] q.1 q.2.1 q.2.2 := by
  refine ⟨F.binds (fun _ _ _ _ _ _ us hl => match us, hl with | [_], _ => rfl), fun q hq => ?_⟩
  cases hq
theorem b_15 {K : PySem.W.Frag} {f : Addr} {fd : FuncData} (F : Fun K "_law_walk" "_law_walk" (topS 22) f fd) : Binds K fd ["size", "deeds"] [] ∧ ∀ q ∈ ([] : List (Nat × List Str × List Nat)), KwB K fd ["size", "deeds"] q.1 q.2.1 q.2.2 := by
  refine ⟨F.binds (fun _ _ _ _ _ _ us hl => match us, hl with | [_, _], _ => rfl), fun q hq => ?_⟩
  cases hq
theorem b_16 {K : PySem.W.Frag} {f : Addr} {fd : FuncData} (F : Fun K "_law_deeds" "_law_deeds" (topS 23) f fd) : Binds K fd ["bag", "size"] [] ∧ ∀ q ∈ ([] : List (Nat × List Str × List Nat)), KwB K fd ["bag", "size"] q.1 q.2.1 q.2.2 := by
  refine ⟨F.binds (fun _ _ _ _ _ _ us hl => match us, hl with | [_, _], _ => rfl), fun q hq => ?_⟩
  cases hq
theorem b_17 {K : PySem.W.Frag} {f : Addr} {fd : FuncData} (F : Fun K "_law_is_stack_right" "_law_is_stack_right" (topS 24) f fd) : Binds K fd ["bag"] [] ∧ ∀ q ∈ ([] : List (Nat × List Str × List Nat)), KwB K fd ["bag"] q.1 q.2.1 q.2.2 := by
  refine ⟨F.binds (fun _ _ _ _ _ _ us hl => match us, hl with | [_], _ => rfl), fun q hq => ?_⟩
  cases hq
theorem b_18 {K : PySem.W.Frag} {f : Addr} {fd : FuncData} (F : Fun K "_law_is_beside_right" "_law_is_beside_right" (topS 25) f fd) : Binds K fd ["bag"] [] ∧ ∀ q ∈ ([] : List (Nat × List Str × List Nat)), KwB K fd ["bag"] q.1 q.2.1 q.2.2 := by
  refine ⟨F.binds (fun _ _ _ _ _ _ us hl => match us, hl with | [_], _ => rfl), fun q hq => ?_⟩
  cases hq
theorem b_19 {K : PySem.W.Frag} {f : Addr} {fd : FuncData} (F : Fun K "_law_is_most_right" "_law_is_most_right" (topS 26) f fd) : Binds K fd ["bag"] [] ∧ ∀ q ∈ ([] : List (Nat × List Str × List Nat)), KwB K fd ["bag"] q.1 q.2.1 q.2.2 := by
  refine ⟨F.binds (fun _ _ _ _ _ _ us hl => match us, hl with | [_], _ => rfl), fun q hq => ?_⟩
  cases hq
theorem scB : FnScope ["script", "cells", "mixed", "cell"] ["script"] (defScope (topS 16)) := ⟨rfl, rfl, rfl, by decide +kernel, rfl, by decide +kernel, by decide +kernel⟩
section
variable {P : Program} {w : World} {K : PySem.W.Frag} {mg : Str → Option Value} {base : Heap}
theorem ok_bag {f : Addr} {fd : FuncData} (F : Fun K "_law_own_bag" "_law_own_bag" (topS 16) f fd) (blt : ∀ x ∈ BLT, mg x = none) {k : Nat} : FnOk P w K mg base CX0 (k + 1) f fd ["script"] (spBag K) := by
  have m : ∀ x, BLT.contains x = true → mg x = none := fun x h => blt x (mem_of h)
  refine F.ok scB (fun vs H Q E h => ?_) (fun cdv A outer s H vs Q E hr h => ?_)
  · obtain ⟨a, ns, rfl, _⟩ := h
    rfl
  · obtain ⟨a, ns, rfl, hS, hl, q⟩ := h
    refine ⟨_, pss_cons (ps_setLc (i := 1) (own := [("cell", 3)]) rfl scB.nd rfl rfl (sw_true rfl rfl rfl (by decide +kernel)) (pi_list (pe_slice sl_list (pv 0) po_none (po_some pe_int))) (blkOk_by (N := ["script", "cells", "mixed", "cell"]) (sc := defScope (topS 16)) (by decide +kernel))
        (fun S H C cl fp => pg_name (i := 3) scB.nd rfl (.inl rfl) (.inr rfl)) (fun S H C cl fp => pts_nil)
        (fun S H C cl fp => pe_op op_mod (pe_callB call_abs (by rfl) (m "abs" (by decide +kernel)) (by decide +kernel) (pa_cons (pv 3) pa_nil)) (pe_op op_shl pe_int pe_int)))
      (pss_cons (ps_set (i := 2) scB.nd rfl (.inl rfl) (pe_op op_add pe_int (pe_callB call_len_seq (by rfl) (m "len" (by decide +kernel)) (by decide +kernel) (pa_cons (pv 1) pa_nil))))
      (pss_cons (ps_for PassesOwn.never rfl (pi_list (pv 1)) (pg_name (i := 3) scB.nd rfl (.inl rfl)) (pss_one (ps_set (i := 2) scB.nd rfl (.inl rfl) (pe_op op_mod (pe_op op_add (pe_op op_add (pe_op op_mulI (pv 2) pe_int) (pe_op op_mod (pv 3) pe_int)) pe_int) pe_int))))
      (pss_one (ps_ret (pe_lst (pa_cons (pe_listRev rfl (by rfl) (m "list" (by decide +kernel)) (by rfl) (m "reversed" (by decide +kernel)) (pe_callTy call_list_of (by rfl) (m "list" (by decide +kernel)) (by decide +kernel) (pa_cons (pv 1) pa_nil))) (pa_cons pe_int (pa_cons (pv 2) pa_nil)))))))), ?_⟩
    exact bag_read (c := 72) (by decide) hS hl q
theorem th_all (d0 : DefM K mg "many_after" (topS 1)) (d1 : DefM K mg "many_cost" (topS 2)) (d2 : DefM K mg "many_run" (topS 3)) (d3 : DefM K mg "many_most" (topS 4)) (d4 : DefM K mg "lowest" (topS 7)) (d5 : DefM K mg "doubling_room" (topS 9)) (d6 : DefM K mg "doubling_costs" (topS 10)) (d7 : DefM K mg "doubling_price" (topS 12)) (d8 : DefM K mg "doubling_quotient" (topS 13)) (d9 : DefM K mg "adding_costs" (topS 14)) (d10 : DefM K mg "_law_draw" (topS 17)) (d11 : DefM K mg "_law_pick" (topS 18)) (d12 : DefM K mg "_law_same" (topS 19)) (d13 : DefM K mg "_law_moved" (topS 20)) (d14 : DefM K mg "_law_is_growing_right" (topS 21)) (d15 : DefM K mg "_law_walk" (topS 22)) (d16 : DefM K mg "_law_deeds" (topS 23)) (d17 : DefM K mg "_law_is_stack_right" (topS 24)) (d18 : DefM K mg "_law_is_beside_right" (topS 25)) (d19 : DefM K mg "_law_is_most_right" (topS 26)) : ∀ t ∈ pg.fs, ∃ f fd, There K mg t f fd := by
  intro t ht
  simp only [pg, List.mem_cons, List.not_mem_nil, or_false] at ht
  rcases ht with rfl | rfl | rfl | rfl | rfl | rfl | rfl | rfl | rfl | rfl | rfl | rfl | rfl | rfl | rfl | rfl | rfl | rfl | rfl | rfl
  · obtain ⟨f, fd, F, hm⟩ := d0; exact ⟨f, fd, hm, F.kp, (b_0 F).1, (b_0 F).2⟩
  · obtain ⟨f, fd, F, hm⟩ := d1; exact ⟨f, fd, hm, F.kp, (b_1 F).1, (b_1 F).2⟩
  · obtain ⟨f, fd, F, hm⟩ := d2; exact ⟨f, fd, hm, F.kp, (b_2 F).1, (b_2 F).2⟩
  · obtain ⟨f, fd, F, hm⟩ := d3; exact ⟨f, fd, hm, F.kp, (b_3 F).1, (b_3 F).2⟩
  · obtain ⟨f, fd, F, hm⟩ := d4; exact ⟨f, fd, hm, F.kp, (b_4 F).1, (b_4 F).2⟩
  · obtain ⟨f, fd, F, hm⟩ := d5; exact ⟨f, fd, hm, F.kp, (b_5 F).1, (b_5 F).2⟩
  · obtain ⟨f, fd, F, hm⟩ := d6; exact ⟨f, fd, hm, F.kp, (b_6 F).1, (b_6 F).2⟩
  · obtain ⟨f, fd, F, hm⟩ := d7; exact ⟨f, fd, hm, F.kp, (b_7 F).1, (b_7 F).2⟩
  · obtain ⟨f, fd, F, hm⟩ := d8; exact ⟨f, fd, hm, F.kp, (b_8 F).1, (b_8 F).2⟩
  · obtain ⟨f, fd, F, hm⟩ := d9; exact ⟨f, fd, hm, F.kp, (b_9 F).1, (b_9 F).2⟩
  · obtain ⟨f, fd, F, hm⟩ := d10; exact ⟨f, fd, hm, F.kp, (b_10 F).1, (b_10 F).2⟩
  · obtain ⟨f, fd, F, hm⟩ := d11; exact ⟨f, fd, hm, F.kp, (b_11 F).1, (b_11 F).2⟩
  · obtain ⟨f, fd, F, hm⟩ := d12; exact ⟨f, fd, hm, F.kp, (b_12 F).1, (b_12 F).2⟩
  · obtain ⟨f, fd, F, hm⟩ := d13; exact ⟨f, fd, hm, F.kp, (b_13 F).1, (b_13 F).2⟩
  · obtain ⟨f, fd, F, hm⟩ := d14; exact ⟨f, fd, hm, F.kp, (b_14 F).1, (b_14 F).2⟩
  · obtain ⟨f, fd, F, hm⟩ := d15; exact ⟨f, fd, hm, F.kp, (b_15 F).1, (b_15 F).2⟩
  · obtain ⟨f, fd, F, hm⟩ := d16; exact ⟨f, fd, hm, F.kp, (b_16 F).1, (b_16 F).2⟩
  · obtain ⟨f, fd, F, hm⟩ := d17; exact ⟨f, fd, hm, F.kp, (b_17 F).1, (b_17 F).2⟩
  · obtain ⟨f, fd, F, hm⟩ := d18; exact ⟨f, fd, hm, F.kp, (b_18 F).1, (b_18 F).2⟩
  · obtain ⟨f, fd, F, hm⟩ := d19; exact ⟨f, fd, hm, F.kp, (b_19 F).1, (b_19 F).2⟩
theorem chain (gb : Glob P w K mg base pg) (d0 : DefM K mg "many_after" (topS 1)) (d1 : DefM K mg "many_cost" (topS 2)) (d2 : DefM K mg "many_run" (topS 3)) (d3 : DefM K mg "many_most" (topS 4)) (d4 : DefM K mg "lowest" (topS 7)) (d5 : DefM K mg "doubling_room" (topS 9)) (d6 : DefM K mg "doubling_costs" (topS 10)) (d7 : DefM K mg "doubling_price" (topS 12)) (d8 : DefM K mg "doubling_quotient" (topS 13)) (d9 : DefM K mg "adding_costs" (topS 14)) (d10 : DefM K mg "_law_draw" (topS 17)) (d11 : DefM K mg "_law_pick" (topS 18)) (d12 : DefM K mg "_law_same" (topS 19)) (d13 : DefM K mg "_law_moved" (topS 20)) (d14 : DefM K mg "_law_is_growing_right" (topS 21)) (d15 : DefM K mg "_law_walk" (topS 22)) (d16 : DefM K mg "_law_deeds" (topS 23)) (d17 : DefM K mg "_law_is_stack_right" (topS 24)) (d18 : DefM K mg "_law_is_beside_right" (topS 25)) (d19 : DefM K mg "_law_is_most_right" (topS 26)) : AllK P w K mg base 24 pg (cut 20 Γ) := by
  have A0 : AllK P w K mg base 0 pg (cut 0 Γ) := all_start (th_all d0 d1 d2 d3 d4 d5 d6 d7 d8 d9 d10 d11 d12 d13 d14 d15 d16 d17 d18 d19)
  have A1 : AllK P w K mg base 1 pg (cut 1 Γ) := all_fn Γ_mono gb A0 d0 rfl fs_ix rfl (fun F => b_0 F) scmany_after sgmany_after_ok rfl (fun W => jmany_after W) (fun ds B Q hl h => wp_many_after ds B Q h)
  have A2 : AllK P w K mg base 2 pg (cut 2 Γ) := all_fn Γ_mono gb A1 d1 rfl fs_ix rfl (fun F => b_1 F) scmany_cost sgmany_cost_ok rfl (fun W => jmany_cost W) (fun ds B Q hl h => wp_many_cost ds B Q h)
  have A3 : AllK P w K mg base 3 pg (cut 3 Γ) := all_fn Γ_mono gb A2 d2 rfl fs_ix rfl (fun F => b_2 F) scmany_run sgmany_run_ok rfl (fun W => jmany_run W) (fun ds B Q hl h => wp_many_run ds B Q h)
  have A4 : AllK P w K mg base 4 pg (cut 4 Γ) := all_fn Γ_mono gb A3 d3 rfl fs_ix rfl (fun F => b_3 F) scmany_most sgmany_most_ok rfl (fun W => jmany_most W) (fun ds B Q hl h => wp_many_most ds B Q h)
  have A5 : AllK P w K mg base 5 pg (cut 5 Γ) := all_fn Γ_mono gb A4 d4 rfl fs_ix rfl (fun F => b_4 F) sclowest sglowest_ok rfl (fun W => jlowest W) (fun ds B Q hl h => wp_lowest ds B Q h)
  have A6 : AllK P w K mg base 6 pg (cut 6 Γ) := all_fn Γ_mono gb A5 d5 rfl fs_ix rfl (fun F => b_5 F) scdoubling_room sgdoubling_room_ok rfl (fun W => jdoubling_room W) (fun ds B Q hl h => wp_doubling_room ds B Q h)
  have A7 : AllK P w K mg base 7 pg (cut 7 Γ) := all_fn Γ_mono gb A6 d6 rfl fs_ix rfl (fun F => b_6 F) scdoubling_costs sgdoubling_costs_ok rfl (fun W => jdoubling_costs W) (fun ds B Q hl h => wp_doubling_costs ds B Q h)
  have A8 : AllK P w K mg base 8 pg (cut 8 Γ) := all_fn Γ_mono gb A7 d7 rfl fs_ix rfl (fun F => b_7 F) scdoubling_price sgdoubling_price_ok rfl (fun W => jdoubling_price W) (fun ds B Q hl h => wp_doubling_price ds B Q h)
  have A9 : AllK P w K mg base 9 pg (cut 9 Γ) := all_fn Γ_mono gb A8 d8 rfl fs_ix rfl (fun F => b_8 F) scdoubling_quotient sgdoubling_quotient_ok rfl (fun W => jdoubling_quotient W) (fun ds B Q hl h => wp_doubling_quotient ds B Q h)
  have A10 : AllK P w K mg base 10 pg (cut 10 Γ) := all_fn Γ_mono gb A9 d9 rfl fs_ix rfl (fun F => b_9 F) scadding_costs sgadding_costs_ok rfl (fun W => jadding_costs W) (fun ds B Q hl h => wp_adding_costs ds B Q h)
  have A11 : AllK P w K mg base 11 pg (cut 11 Γ) := all_fn Γ_mono gb A10 d10 rfl fs_ix rfl (fun F => b_10 F) sclaw_draw sglaw_draw_ok rfl (fun W => jlaw_draw W) (fun ds B Q hl h => wp_law_draw ds B Q h)
  have A12 : AllK P w K mg base 12 pg (cut 12 Γ) := all_fn Γ_mono gb A11 d11 rfl fs_ix rfl (fun F => b_11 F) sclaw_pick sglaw_pick_ok rfl (fun W => jlaw_pick W) (fun ds B Q hl h => wp_law_pick ds B Q h)
  have A13 : AllK P w K mg base 17 pg (cut 13 Γ) := all_same (n := 4) Γ_mono gb A12 d12 rfl fs_ix rfl (fun F => b_12 F) sclaw_same sglaw_same_ok rfl rfl rfl (fun W => jlaw_same W) rfl
  have A14 : AllK P w K mg base 18 pg (cut 14 Γ) := all_fn Γ_mono gb A13 d13 rfl fs_ix rfl (fun F => b_13 F) sclaw_moved sglaw_moved_ok rfl (fun W => jlaw_moved W) (fun ds B Q hl h => wp_law_moved ds B Q h)
  have A15 : AllK P w K mg base 19 pg (cut 15 Γ) := all_fn Γ_mono gb A14 d14 rfl fs_ix rfl (fun F => b_14 F) sclaw_is_growing_right sglaw_is_growing_right_ok rfl (fun W => jlaw_is_growing_right W) (fun ds B Q hl h => wp_law_is_growing_right ds B Q h)
  have A16 : AllK P w K mg base 20 pg (cut 16 Γ) := all_fn Γ_mono gb A15 d15 rfl fs_ix rfl (fun F => b_15 F) sclaw_walk sglaw_walk_ok rfl (fun W => jlaw_walk W) (fun ds B Q hl h => wp_law_walk ds B Q h)
  have A17 : AllK P w K mg base 21 pg (cut 17 Γ) := all_fn Γ_mono gb A16 d16 rfl fs_ix rfl (fun F => b_16 F) sclaw_deeds sglaw_deeds_ok rfl (fun W => jlaw_deeds W) (fun ds B Q hl h => wp_law_deeds ds B Q h)
  have A18 : AllK P w K mg base 22 pg (cut 18 Γ) := all_fn Γ_mono gb A17 d17 rfl fs_ix rfl (fun F => b_17 F) sclaw_is_stack_right sglaw_is_stack_right_ok rfl (fun W => jlaw_is_stack_right W) (fun ds B Q hl h => wp_law_is_stack_right ds B Q h)
  have A19 : AllK P w K mg base 23 pg (cut 19 Γ) := all_fn Γ_mono gb A18 d18 rfl fs_ix rfl (fun F => b_18 F) sclaw_is_beside_right sglaw_is_beside_right_ok rfl (fun W => jlaw_is_beside_right W) (fun ds B Q hl h => wp_law_is_beside_right ds B Q h)
  have A20 : AllK P w K mg base 24 pg (cut 20 Γ) := all_fn Γ_mono gb A19 d19 rfl fs_ix rfl (fun F => b_19 F) sclaw_is_most_right sglaw_is_most_right_ok rfl (fun W => jlaw_is_most_right W) (fun ds B Q hl h => wp_law_is_most_right ds B Q h)
  exact A20
theorem scL : FnScope ["script", "bag", "turn"] ["script"] (defScope (topS 27)) := ⟨rfl, rfl, rfl, by decide +kernel, rfl, by decide +kernel, by decide +kernel⟩
theorem ok_law {f fB : Addr} {fd fdB : FuncData} (F : Fun K "law" "law" (topS 27) f fd) (FB : Fun K "_law_own_bag" "_law_own_bag" (topS 16) fB fdB) (hB : mg "_law_own_bag" = some (.ref fB)) (gb : Glob P w K mg base pg) (all : AllK P w K mg base 24 pg (cut 20 Γ)) : FnOk P w K mg base CX0 25 f fd ["script"] (spLaw K) := by
  have bB := FB.binds (ps := ["script"]) fun _ _ _ _ _ _ us hl => match us, hl with | [_], _ => rfl
  have GB : FnOk P w K mg base CX0 24 fB fdB ["script"] (spBag K) := ok_bag FB gb.blt
  refine F.ok scL (fun vs H Q E h => ?_) (fun cdv A outer s H vs Q E hr h => ?_)
  · obtain ⟨a, ns, rfl, _⟩ := h
    rfl
  · obtain ⟨a, ns, rfl, hS, hl, q⟩ := h
    refine ⟨_, pss_cons (ps_set (i := 1) scL.nd rfl (.inl rfl) (pe_call GB hr (by rfl) hB FB.kp bB .nil pass0 (pa_cons (pv 0) pa_nil))) (jlawR (wd_of (s := sglawR) sglawR_ok rfl gb (cut_mono Γ_mono) all hr)), ?_⟩
    refine ⟨.ref a, rfl, a, ns, rfl, hS, hl, fun H' a0 a1 B b => ?_⟩
    exact law_end (n := 1) (cut_mono Γ_mono) b (wp_law B) q
end
theorem all_mk {l : PySem.W.OpenLaw} {w : World} {K : PySem.W.Frag} {h : Heap} {mg : Str → Option Value} {fa : Addr} (X : K.In h) (G : h.Ns mainGlobals mg) (hfa : mg "law" = some (.ref fa)) (eL : DefAt K "law" (topS 27)) (eB : DefAt K "_law_own_bag" (topS 16)) (e0 : DefAt K "many_after" (topS 1)) (e1 : DefAt K "many_cost" (topS 2)) (e2 : DefAt K "many_run" (topS 3)) (e3 : DefAt K "many_most" (topS 4)) (e4 : DefAt K "lowest" (topS 7)) (e5 : DefAt K "doubling_room" (topS 9)) (e6 : DefAt K "doubling_costs" (topS 10)) (e7 : DefAt K "doubling_price" (topS 12)) (e8 : DefAt K "doubling_quotient" (topS 13)) (e9 : DefAt K "adding_costs" (topS 14)) (e10 : DefAt K "_law_draw" (topS 17)) (e11 : DefAt K "_law_pick" (topS 18)) (e12 : DefAt K "_law_same" (topS 19)) (e13 : DefAt K "_law_moved" (topS 20)) (e14 : DefAt K "_law_is_growing_right" (topS 21)) (e15 : DefAt K "_law_walk" (topS 22)) (e16 : DefAt K "_law_deeds" (topS 23)) (e17 : DefAt K "_law_is_stack_right" (topS 24)) (e18 : DefAt K "_law_is_beside_right" (topS 25)) (e19 : DefAt K "_law_is_most_right" (topS 26)) (z0 : PySem.W.nsIn K mainGlobals "len" = some none) (z1 : PySem.W.nsIn K mainGlobals "abs" = some none) (z2 : PySem.W.nsIn K mainGlobals "max" = some none) (z3 : PySem.W.nsIn K mainGlobals "min" = some none) (z4 : PySem.W.nsIn K mainGlobals "sum" = some none) (z5 : PySem.W.nsIn K mainGlobals "int" = some none) (z6 : PySem.W.nsIn K mainGlobals "tuple" = some none) (z7 : PySem.W.nsIn K mainGlobals "list" = some none) (z8 : PySem.W.nsIn K mainGlobals "sorted" = some none) (z9 : PySem.W.nsIn K mainGlobals "all" = some none) (z10 : PySem.W.nsIn K mainGlobals "any" = some none) (z11 : PySem.W.nsIn K mainGlobals "isinstance" = some none) (z12 : PySem.W.nsIn K mainGlobals "range" = some none) (z13 : PySem.W.nsIn K mainGlobals "zip" = some none) (z14 : PySem.W.nsIn K mainGlobals "reversed" = some none) (z15 : PySem.W.nsIn K mainGlobals "enumerate" = some none) (z16 : PySem.W.nsIn K mainGlobals "set" = some none) (z17 : PySem.W.nsIn K mainGlobals "bool" = some none) (z18 : PySem.W.nsIn K mainGlobals "str" = some none) (z19 : PySem.W.nsIn K mainGlobals "repr" = some none) (z20 : PySem.W.nsIn K mainGlobals "dict" = some none) (gi0 : IntAt K "MAX_ROOMS" 20) :
    ∃ fd : FuncData, (∀ (s : Shared) (v : Value), BindsTo s fd ⟨[v], []⟩ [("script", v)]) ∧ ∀ base : Heap, K.In base → base.Ns mainGlobals mg → FnOk l.prog w K mg base CX0 25 fa fd ["script"] (spLaw K) := by
  obtain ⟨f, oc, od, an, sl, kV, dc, pm, cd, ct, a, lk, c, k⟩ := eL
  have e := hfa.symm.trans (PySem.W.mg_of X G a)
  cases e
  obtain ⟨fB, fdB, FB, hB⟩ := eB.m X G
  refine ⟨PySem.W.fnOf "law" "law" (defArgs (topS 27)) (defBody (topS 27)) (defScope (topS 27)) .none kV dc pm an cd ct, fun s v => .of_eq rfl, fun base _ _ => ?_⟩
  have gb : Glob l.prog w K mg base pg := ⟨fun x hx => ?_, fun t ht => ?_⟩
  · exact ok_law (fun_mk lk c k) FB hB gb (chain gb (e0.m X G) (e1.m X G) (e2.m X G) (e3.m X G) (e4.m X G) (e5.m X G) (e6.m X G) (e7.m X G) (e8.m X G) (e9.m X G) (e10.m X G) (e11.m X G) (e12.m X G) (e13.m X G) (e14.m X G) (e15.m X G) (e16.m X G) (e17.m X G) (e18.m X G) (e19.m X G))
  · simp only [BLT, List.mem_cons, List.not_mem_nil, or_false] at hx
    rcases hx with rfl | rfl | rfl | rfl | rfl | rfl | rfl | rfl | rfl | rfl | rfl | rfl | rfl | rfl | rfl | rfl | rfl | rfl | rfl | rfl | rfl
    all_goals first | exact PySem.W.mg_none_of X G z0 | exact PySem.W.mg_none_of X G z1 | exact PySem.W.mg_none_of X G z2 | exact PySem.W.mg_none_of X G z3 | exact PySem.W.mg_none_of X G z4 | exact PySem.W.mg_none_of X G z5 | exact PySem.W.mg_none_of X G z6 | exact PySem.W.mg_none_of X G z7 | exact PySem.W.mg_none_of X G z8 | exact PySem.W.mg_none_of X G z9 | exact PySem.W.mg_none_of X G z10 | exact PySem.W.mg_none_of X G z11 | exact PySem.W.mg_none_of X G z12 | exact PySem.W.mg_none_of X G z13 | exact PySem.W.mg_none_of X G z14 | exact PySem.W.mg_none_of X G z15 | exact PySem.W.mg_none_of X G z16 | exact PySem.W.mg_none_of X G z17 | exact PySem.W.mg_none_of X G z18 | exact PySem.W.mg_none_of X G z19 | exact PySem.W.mg_none_of X G z20
  · simp only [pg, List.mem_cons, List.not_mem_nil, or_false] at ht
    rcases ht with rfl
    · obtain ⟨t, q⟩ := gi0; exact ⟨t, PySem.W.mg_of X G q⟩
end K72
open PySem PySem.W PyProof.Rows
set_option maxHeartbeats 0 in
theorem PySem.Challenge.cw_costsahead_k72_whole_dear_deeds_seldom_holds : PySem.Challenge.rw_costsahead_k72_whole_dear_deeds_seldom.Holds := by
  w_on; o_law; k_head; (case hw => w_witness2)
  k_fill
  refine L2.walk_ofK (l := PySem.Challenge.rw_costsahead_k72_whole_dear_deeds_seldom) (n := 63) (k := 25) (x := "script") (CX := L2.CX0) (sp := TL.spLaw) rfl (by decide) rfl ⟨rfl, by decide, by decide⟩ (fun w h Y => PySem.W.kIn_of Y) ?F (fun _ _ a ns hl _ hS => ⟨a, ns, rfl, hS, hl, fun _ => rfl⟩) (fun _ _ _ _ h => h)
  case F =>
    intro w mg fa h KX G hmg
    refine' K72.all_mk KX G hmg ?eL ?eB ?e0 ?e1 ?e2 ?e3 ?e4 ?e5 ?e6 ?e7 ?e8 ?e9 ?e10 ?e11 ?e12 ?e13 ?e14 ?e15 ?e16 ?e17 ?e18 ?e19 ?z0 ?z1 ?z2 ?z3 ?z4 ?z5 ?z6 ?z7 ?z8 ?z9 ?z10 ?z11 ?z12 ?z13 ?z14 ?z15 ?z16 ?z17 ?z18 ?z19 ?z20 ?gi0
    (case eL => refine' TL.DefAt.by ?a ?l ?c ?k; (case a => k_is); (case l => k_is); (case c => k_is); (case k => k_is))
    (case eB => refine' TL.DefAt.by ?a ?l ?c ?k; (case a => k_is); (case l => k_is); (case c => k_is); (case k => k_is))
    (case e0 => refine' TL.DefAt.by ?a ?l ?c ?k; (case a => k_is); (case l => k_is); (case c => k_is); (case k => k_is))
    (case e1 => refine' TL.DefAt.by ?a ?l ?c ?k; (case a => k_is); (case l => k_is); (case c => k_is); (case k => k_is))
    (case e2 => refine' TL.DefAt.by ?a ?l ?c ?k; (case a => k_is); (case l => k_is); (case c => k_is); (case k => k_is))
    (case e3 => refine' TL.DefAt.by ?a ?l ?c ?k; (case a => k_is); (case l => k_is); (case c => k_is); (case k => k_is))
    (case e4 => refine' TL.DefAt.by ?a ?l ?c ?k; (case a => k_is); (case l => k_is); (case c => k_is); (case k => k_is))
    (case e5 => refine' TL.DefAt.by ?a ?l ?c ?k; (case a => k_is); (case l => k_is); (case c => k_is); (case k => k_is))
    (case e6 => refine' TL.DefAt.by ?a ?l ?c ?k; (case a => k_is); (case l => k_is); (case c => k_is); (case k => k_is))
    (case e7 => refine' TL.DefAt.by ?a ?l ?c ?k; (case a => k_is); (case l => k_is); (case c => k_is); (case k => k_is))
    (case e8 => refine' TL.DefAt.by ?a ?l ?c ?k; (case a => k_is); (case l => k_is); (case c => k_is); (case k => k_is))
    (case e9 => refine' TL.DefAt.by ?a ?l ?c ?k; (case a => k_is); (case l => k_is); (case c => k_is); (case k => k_is))
    (case e10 => refine' TL.DefAt.by ?a ?l ?c ?k; (case a => k_is); (case l => k_is); (case c => k_is); (case k => k_is))
    (case e11 => refine' TL.DefAt.by ?a ?l ?c ?k; (case a => k_is); (case l => k_is); (case c => k_is); (case k => k_is))
    (case e12 => refine' TL.DefAt.by ?a ?l ?c ?k; (case a => k_is); (case l => k_is); (case c => k_is); (case k => k_is))
    (case e13 => refine' TL.DefAt.by ?a ?l ?c ?k; (case a => k_is); (case l => k_is); (case c => k_is); (case k => k_is))
    (case e14 => refine' TL.DefAt.by ?a ?l ?c ?k; (case a => k_is); (case l => k_is); (case c => k_is); (case k => k_is))
    (case e15 => refine' TL.DefAt.by ?a ?l ?c ?k; (case a => k_is); (case l => k_is); (case c => k_is); (case k => k_is))
    (case e16 => refine' TL.DefAt.by ?a ?l ?c ?k; (case a => k_is); (case l => k_is); (case c => k_is); (case k => k_is))
    (case e17 => refine' TL.DefAt.by ?a ?l ?c ?k; (case a => k_is); (case l => k_is); (case c => k_is); (case k => k_is))
    (case e18 => refine' TL.DefAt.by ?a ?l ?c ?k; (case a => k_is); (case l => k_is); (case c => k_is); (case k => k_is))
    (case e19 => refine' TL.DefAt.by ?a ?l ?c ?k; (case a => k_is); (case l => k_is); (case c => k_is); (case k => k_is))
    (case z0 => k_is)
    (case z1 => k_is)
    (case z2 => k_is)
    (case z3 => k_is)
    (case z4 => k_is)
    (case z5 => k_is)
    (case z6 => k_is)
    (case z7 => k_is)
    (case z8 => k_is)
    (case z9 => k_is)
    (case z10 => k_is)
    (case z11 => k_is)
    (case z12 => k_is)
    (case z13 => k_is)
    (case z14 => k_is)
    (case z15 => k_is)
    (case z16 => k_is)
    (case z17 => k_is)
    (case z18 => k_is)
    (case z19 => k_is)
    (case z20 => k_is)
    (case gi0 => refine' TL.IntAt.by ?a; (case a => k_is))

